import PyProof.Rows.All
import Wide.All
import OpenK.AllK
import Wide.FinOn
import KE.KStateDown
import Lean
import HandS.Base
import HandS.Call
import HandS.List
import HandS.Comp
import HandS.Ends
import HandS.Dict
import HandS.Iter
import HandS.Text
import HandS.Walk
import HandS.More
import HandS.Exc
import HandS.TryOnly
import HandS.ExcOwn
import HandS.Words
import HandS.WordsList
import HandS.WordsExc
import HandS.Defaults
import HandS.Deep
import HandS.Wide
import HandS.Zip
import HandS.Style
import HandS.IsInst
import HandS.TupAny
import HandS.Lambda
import HandS.ExcCtx
import HandS.Head0
import HandS.Head1
import HandS.Head2
import HandS.HeadEnd
import HandS.HeadHook1
import HandS.HeadHook2
import HandS.Hot
import HandS.HotCalls
import HandS.ExcIs
import HandS.NoneIn
import HandS.TupMul
import HandS.SetFor
import KE.DataCmp
import KE.SortData
import KE.DataMinMax
import KE.GoesMore
import KE.KRevSl
import PySem.Challenge.RW_throngday_k05_whole_numbers
import HandS.HeadHook4
import HandS.HeadWalk
import KE.KNestM
set_option Elab.async false
set_option linter.all false
set_option maxRecDepth 100000
/-! TD1: an evaluator over the given syntax, for data. -/
namespace TD
open PySem L2

abbrev D := PyData

/-- a slot: nothing known, a value that never changes, a list that is ours alone, a list that the caller lent -/
inductive Sl where
  | non
  | val (d : D)
  | own (ds : List D)
  | par (ds : List D)

abbrev En := List Sl

inductive Res (α : Type) where
  | ok (a : α) (e : En)
  | exc (c : Str) (e : En)
  | bad

abbrev M (α : Type) := En → Res α
def ret {α : Type} (a : α) : M α := fun e => .ok a e
def bad {α : Type} : M α := fun _ => .bad
def bnd {α β : Type} (m : M α) (f : α → M β) : M β := fun e => match m e with
  | .ok a e' => f a e'
  | .exc c e' => .exc c e'
  | .bad => .bad
def opt {α : Type} : Option α → M α
  | some a => ret a
  | none => bad

/-- the scopes: what is seen, what may be stored -/
structure Sc where
  vis : Scope
  asg : Scope

/-- what the evaluator leans on -/
structure Cst where
  N : List Str
  op : Operator → D → D → Option D
  cmp : CmpOp → D → D → Option Bool
  isi : Str → D → Option Bool
  bf : Str → List D → Option D
  mt : Str → D → List D → Option D
  ix : D → D → Option D
  sl : D → Option Int → Option Int → Option D
  rv : D → Option D
  call : Str → En → Res D
  arity : Str → Option (Bool × Nat)
  glob : Str → Option D
  excs : Str → Bool
  lam : Sc → Expr → M D
  told : Str → Bool
  trm : Str → Option D

def visB (sc : Scope) (x : Str) : Bool := match sc.names.lookup x with
  | some .local => true
  | some .cell => true
  | some .free => true
  | _ => false
def locB (sc : Scope) (x : Str) : Bool := match sc.names.lookup x with
  | some .local => true
  | some .cell => true
  | _ => false
def gloB (sc : Scope) (x : Str) : Bool := match sc.names.lookup x with
  | some .globalImplicit => true
  | _ => false
def plainN (x : Str) : Bool := !(x == ("__debug__" : Str)) && !(x == ("__classdict__" : Str)) && !(x == ("__name__" : Str))

def slotIn : List Str → Str → Option Nat
  | [], _ => none
  | y :: r, x => if y == x then some 0 else (slotIn r x).map (· + 1)
def slot (C : Cst) (x : Str) : Option Nat := slotIn C.N x

def rdSlot (i : Nat) : M D := fun env => match env[i]? with
  | some (.val d) => .ok d env
  | some (.own ds) => .ok (.list ds) (env.set i (.val (.list ds)))
  | _ => .bad
def rdName (C : Cst) (S : Sc) (x : Str) : M D := match slot C x with
  | some i => if visB S.vis x && plainN x then rdSlot i else bad
  | none => match C.glob x with
    | some d => if gloB S.vis x && plainN x then ret d else bad
    | none => bad

/-- the list of a slot, ours or lent -/
def lent (i : Nat) (env : En) : Option (List D) := match env[i]? with
  | some (.own ds) => some ds
  | some (.par ds) => some ds
  | _ => none
def putL (i : Nat) (ds : List D) (env : En) : En := match env[i]? with
  | some (.own _) => env.set i (.own ds)
  | some (.par _) => env.set i (.par ds)
  | _ => env
/-- the slot of a name that holds a list of ours or a lent one -/
def lentAt (C : Cst) (S : Sc) (e : Expr) (env : En) : Option Nat := match e with
  | .Name x _ => if visB S.vis x && plainN x then (match slot C x with
    | some i => (match lent i env with
      | some _ => some i
      | none => none)
    | none => none) else none
  | _ => none

def wrSlot (i : Nat) (v : Sl) : M Unit := fun env => match env[i]? with
  | some (.par _) => .bad
  | some _ => .ok () (env.set i v)
  | none => .bad
def wrName (C : Cst) (S : Sc) (x : Str) (v : Sl) : M Unit := match slot C x with
  | some i => if locB S.vis x && locB S.asg x then wrSlot i v else bad
  | none => bad

def isStar : Expr → Bool
  | .Starred _ _ => true
  | _ => false
def isSet : Expr → Bool
  | .Set _ _ _ => true
  | _ => false
def isSlice : Expr → Bool
  | .Slice _ _ _ _ => true
  | _ => false
/-- a call without arguments (super() has a form of its own) -/
def isCall0 : Expr → Bool
  | .Call _ [] _ _ => true
  | _ => false
def mapE {α : Type} (f : Expr → M α) : List Expr → M (List α)
  | [] => ret []
  | e :: es => if isStar e then bad else bnd (f e) fun d => bnd (mapE f es) fun ds => ret (d :: ds)

def lim : Nat := 100000

def boolE (f : Expr → M D) (op : BoolOp) : List Expr → M D
  | [] => bad
  | [a] => f a
  | a :: r => bnd (f a) fun x => match x with
    | .bool c => (match op with
      | .And => if c then boolE f op r else ret (.bool false)
      | .Or => if c then ret (.bool true) else boolE f op r)
    | _ => bad
def boolT (f : Expr → M Bool) (op : BoolOp) : List Expr → M Bool
  | [] => bad
  | [a] => f a
  | a :: r => bnd (f a) fun c => match op with
    | .And => if c then boolT f op r else ret false
    | .Or => if c then ret true else boolT f op r

/-- assignment of data to a target -/
def asgs (f : Expr → D → M Unit) : List Expr → List D → M Unit
  | [], [] => ret ()
  | e :: es, d :: ds => bnd (f e d) fun _ => asgs f es ds
  | _, _ => bad
def asgE (C : Cst) (S : Sc) : Nat → Expr → D → M Unit
  | 0, _, _ => bad
  | n + 1, e, d => match e with
    | .Name x _ => wrName C S x (.val d)
    | .Tuple es _ _ => (match d with
      | .tuple ds => asgs (asgE C S n) es ds
      | .list ds => asgs (asgE C S n) es ds
      | _ => bad)
    | _ => bad

/-- what a for walks -/
def pairUp (xs ys : List D) : List D := (xs.zip ys).map fun p => .tuple [p.1, p.2]
def numbered (xs : List D) : List D := ((List.range xs.length).zip xs).map fun p => .tuple [.int p.1, p.2]
def upTo (lo : Int) (n : Nat) : List D := (List.range n).map fun (i : Nat) => .int (lo + i)
def signs (x : Str) : List D := x.cps.toList.map fun c => .str ⟨#[c]⟩
def smallI (i : Int) : Bool := decide (-100000 ≤ i) && decide (i ≤ 100000)
def seqOf : D → Option (List D)
  | .list ds => some ds
  | .tuple ds => some ds
  | .str x => if x.cps.size ≤ lim then some (signs x) else none
  | _ => none
def isTupT : Expr → Bool
  | .Tuple _ _ _ => true
  | _ => false
def bltB (C : Cst) (S : Sc) (x : Str) : Bool := gloB S.vis x && (slot C x).isNone && (C.arity x).isNone && (C.glob x).isNone
def iterE (C : Cst) (S : Sc) (f : Expr → M D) (tg : Expr) (it : Expr) : M (List D) := match it with
  | .Call (.Name g _) args [] _ => if args.any isStar then bad else
    if g == ("range" : Str) then (if bltB C S g then (match args with
      | [a] => bnd (f a) fun x => (match x with
        | .int n => if smallI n then ret (upTo 0 n.toNat) else bad
        | _ => bad)
      | [a, b] => bnd (f a) fun x => bnd (f b) fun y => (match x, y with
        | .int lo, .int hi => if smallI lo && smallI hi then ret (upTo lo (hi - lo).toNat) else bad
        | _, _ => bad)
      | _ => bad) else bad)
    else if g == ("enumerate" : Str) then (if bltB C S g && isTupT tg then (match args with
      | [a] => bnd (f a) fun x => (match x with
        | .list ds => ret (numbered ds)
        | .tuple ds => ret (numbered ds)
        | _ => bad)
      | _ => bad) else bad)
    else if g == ("zip" : Str) then (if bltB C S g && isTupT tg then (match args with
      | [a, b] => bnd (f a) fun x => bnd (f b) fun y => (match x, y with
        | .list xs, .list ys => ret (pairUp xs ys)
        | .tuple xs, .tuple ys => ret (pairUp xs ys)
        | _, _ => bad)
      | _ => bad) else bad)
    else bnd (f it) fun x => opt (seqOf x)
  | _ => if isSet it then bad else bnd (f it) fun x => opt (seqOf x)

/-- a comprehension's names and their slots -/
def ownOf (C : Cst) (scope : Scope) : List (Str × Nat) := scope.names.filterMap fun y => match y.2 with
  | .local => (slot C y.1).map fun i => (y.1, i)
  | .cell => (slot C y.1).map fun i => (y.1, i)
  | _ => none
def wipeE (env : En) : List Nat → En
  | [] => env
  | v :: vs => (wipeE env vs).set v .non
/-- none of the slots is lent or ours -/
def noneLent (env : En) (vs : List Nat) : Bool := vs.all fun v => match env[v]? with
  | some (.own _) => false
  | some (.par _) => false
  | some _ => true
  | none => false
def backE (env e' : En) : List Nat → En
  | [] => e'
  | v :: vs => (backE env e' vs).set v (env.getD v .non)
def wipeM (vs : List Nat) : M Unit := fun env => .ok () (wipeE env vs)
def compL (vs : List Nat) (asg : D → M Unit) (test : M Bool) (elt : M D) : List D → M (List D)
  | [] => ret []
  | d :: r => bnd (asg d) fun _ => bnd test fun c =>
      if c then bnd elt fun y => bnd (wipeM vs) fun _ => bnd (compL vs asg test elt r) fun ys => ret (y :: ys)
      else bnd (wipeM vs) fun _ => compL vs asg test elt r
/-- the slots that a target stores -/
def tslots (C : Cst) : Nat → Expr → List Nat
  | 0, _ => []
  | n + 1, e => match e with
    | .Name x _ => (slot C x).toList
    | .Tuple es _ _ => es.flatMap (tslots C n)
    | _ => []
/-- no exception may come -/
def noExc {α : Type} (m : M α) : M α := fun env => match m env with
  | .ok a e => .ok a e
  | .exc _ _ => .bad
  | .bad => .bad
/-- run m with the slots vs forgotten; they come back behind it -/
def inner {α : Type} (vs : List Nat) (m : M α) : M α := fun env =>
  if noneLent env vs then (match m (wipeE env vs) with
    | .ok a e' => .ok a (backE env e' vs)
    | .exc _ _ => .bad
    | .bad => .bad) else .bad
def testsE (g : Expr → M Bool) : List Expr → M Bool
  | [] => ret true
  | [t] => g t
  | _ => bad

def setVis (S : Sc) (scope : Scope) : Sc := ⟨relS scope S.vis, scope⟩

def partE (f : Expr → M D) : Option Expr → M (Option Int)
  | none => ret none
  | some e => bnd (f e) fun x => match x with
    | .int i => ret (some i)
    | _ => bad

def isMinus1 : Expr → Bool
  | .UnaryOp .USub (.Constant (.int 1) _ _) _ => true
  | _ => false

/-- a call of an own def -/
def callE (C : Cst) (S : Sc) (f : Expr → M D) (g : Str) (dice : Bool) (k : Nat) (args : List Expr) : M D :=
  if dice then (match args with
    | a :: rest => fun env => (match lentAt C S a env with
      | some i => (bnd (mapE f rest) fun ds => fun env => if ds.length + 1 = k then (match lent i env with
          | some cs => (match C.call g (.par cs :: ds.map .val) with
            | .ok d (.par cs' :: _) => .ok d (putL i cs' env)
            | .exc c (.par cs' :: _) => .exc c (putL i cs' env)
            | _ => .bad)
          | none => .bad) else .bad) env
      | none => .bad)
    | [] => bad)
  else bnd (mapE f args) fun ds => fun env => if ds.length = k then (match C.call g (ds.map .val) with
    | .ok d _ => .ok d env
    | .exc c _ => .exc c env
    | .bad => .bad) else .bad

/-- how a deed ends: what it tells, or how it is refused -/
def toldM (trm : Str → Option D) (m : M D) : M D := fun env => match m env with
  | .ok d e => .ok d e
  | .exc c e => (match trm c with
    | some d => .ok d e
    | none => .bad)
  | .bad => .bad
def noArgs (a : Arguments) : Bool := a.posonlyargs.isEmpty && a.args.isEmpty && a.kwonlyargs.isEmpty && a.vararg.isNone && a.kwarg.isNone && a.defaults.isEmpty && a.kw_defaults.isEmpty
def toldE (C : Cst) (S : Sc) (x : Str) (args : List Expr) : M D := match args with
  | [.Lambda ps body scope _] => if noArgs ps && LamX.lamSB S.vis scope && gloB S.vis x then toldM C.trm (C.lam ⟨scope, scope⟩ body) else bad
  | _ => bad
/-- x.m(args) where x is a list of ours -/
def ownMeth (C : Cst) (f : Expr → M D) (i : Nat) (m : Str) (args : List Expr) : M D :=
  if m == ("append" : Str) then (match args with
    | [e] => bnd (f e) fun d => fun env => (match lent i env with
      | some ds => if ds.length < lim then .ok .none (putL i (ds ++ [d]) env) else .bad
      | none => .bad)
    | _ => bad)
  else if m == ("pop" : Str) then (match args with
    | [] => fun env => (match lent i env with
      | some ds => (match ds.getLast? with
        | some d => .ok d (putL i ds.dropLast env)
        | none => .bad)
      | none => .bad)
    | [e] => bnd (f e) fun x => fun env => (match x, lent i env with
      | .int k, some ds => if 0 ≤ k ∧ k < ds.length then (match ds[k.toNat]? with
        | some d => .ok d (putL i (ds.eraseIdx k.toNat) env)
        | none => .bad) else .bad
      | _, _ => .bad)
    | _ => bad)
  else if m == ("remove" : Str) then (match args with
    | [e] => bnd (f e) fun x => fun env => (match x, lent i env with
      | .str z, some ds => if (ds.all fun d => match d with | .str _ => true | _ => false) then (match ds.findIdx? (fun d => match d with | .str y => y == z | _ => false) with
        | some j => .ok .none (putL i (ds.eraseIdx j) env)
        | none => .bad) else .bad
      | _, _ => .bad)
    | _ => bad)
  else bad

/-- a written dict of texts -/
def cdict : List (Option Expr) → List Expr → Option (List (Str × Str))
  | [], [] => some []
  | some (.Constant (.str a) _ _) :: ks, .Constant (.str b) _ _ :: vs => (cdict ks vs).map ((a, b) :: ·)
  | _, _ => none
def dictD (kvs : List (Str × Str)) : D := .dict (kvs.map fun p => (.str p.1, .str p.2))
def stepE (C : Cst) (f : Sc → Expr → M D) (g : Sc → Expr → M Bool) (S : Sc) (e : Expr) : M D := match e with
  | .Constant c _ _ => (match c with
    | .none => ret .none
    | .bool b => ret (.bool b)
    | .int i => ret (.int i)
    | .str x => ret (.str x)
    | _ => bad)
  | .Name x _ => rdName C S x
  | .BinOp a op b _ => bnd (f S a) fun x => bnd (f S b) fun y => opt (C.op op x y)
  | .UnaryOp op a _ => (match op with
    | .USub => bnd (f S a) fun x => (match x with
      | .int i => ret (.int (-i))
      | _ => bad)
    | .Not => bnd (f S a) fun x => (match x with
      | .bool b => ret (.bool !b)
      | _ => bad)
    | _ => bad)
  | .BoolOp op es _ => boolE (f S) op es
  | .Compare a ops bs _ => (match ops, bs with
    | [op], [b] => if isSet b then bad else bnd (f S a) fun x => bnd (f S b) fun y => bnd (opt (C.cmp op x y)) fun c => ret (.bool c)
    | [op, op'], [b, c] => if isSet b || isSet c then bad else bnd (f S a) fun x => bnd (f S b) fun y => bnd (opt (C.cmp op x y)) fun k =>
        if k then bnd (f S c) fun z => bnd (opt (C.cmp op' y z)) fun k' => ret (.bool k') else ret (.bool false)
    | _, _ => bad)
  | .IfExp t a b _ => bnd (g S t) fun c => if c then f S a else f S b
  | .Tuple es _ _ => bnd (mapE (f S) es) fun ds => if ds.length ≤ lim then ret (.tuple ds) else bad
  | .List es _ => bnd (mapE (f S) es) fun ds => if ds.length ≤ lim then ret (.list ds) else bad
  | .Dict ks vs _ => (match cdict ks vs with
    | some kvs => if decide (kvs.length ≤ 15) && !kvs.isEmpty && decide ((kvs.map (·.1)).Nodup) then ret (dictD kvs) else bad
    | none => bad)
  | .Subscript a i _ => (match i with
    | .Slice lo hi none _ => bnd (f S a) fun x => bnd (partE (f S) lo) fun l => bnd (partE (f S) hi) fun h => opt (C.sl x l h)
    | .Slice none none (some s) _ => if isMinus1 s then bnd (f S a) fun x => opt (C.rv x) else bad
    | .Slice _ _ _ _ => bad
    | _ => fun env => (match lentAt C S a env with
      | some j => (bnd (f S i) fun y => fun env' => match lent j env', y with
        | some ds, .int k => if 0 ≤ k then (match ds[k.toNat]? with
          | some d => .ok d env'
          | none => .bad) else .bad
        | _, _ => .bad) env
      | none => (bnd (f S a) fun x => bnd (f S i) fun y => opt (C.ix x y)) env))
  | .Call fn args [] cpos => if args.any isStar then bad else (match fn with
    | .Name x _ => if C.told x then toldE C S x args else (match C.arity x with
      | some (dice, k) => if gloB S.vis x && plainN x && (slot C x).isNone then callE C S (f S) x dice k args else bad
      | none => if bltB C S x then
          (if x == ("isinstance" : Str) then (match args with
            | [a, .Name T _] => if bltB C S T then bnd (noExc (f S a)) fun d => bnd (opt (C.isi T d)) fun b => ret (.bool b) else bad
            | _ => bad)
          else if x == ("len" : Str) then (match args with
            | [a] => fun env => (match lentAt C S a env with
              | some j => (match lent j env with
                | some ds => .ok (.int ds.length) env
                | none => .bad)
              | none => (bnd (noExc (mapE (f S) args)) fun ds => opt (C.bf x ds)) env)
            | _ => bad)
          else bnd (noExc (mapE (f S) args)) fun ds => opt (C.bf x ds)) else bad)
    | .Attribute o m apos => if isCall0 o || !(apos.endLine == cpos.line) then bad else fun env => (match lentAt C S o env with
      | some i => ownMeth C (f S) i m args env
      | none => (bnd (noExc (f S o)) fun x => bnd (noExc (mapE (f S) args)) fun ds => opt (C.mt m x ds)) env)
    | _ => bad)
  | .ListComp elt [⟨tg, it, ifs, 0⟩] scope _ =>
      if blkC C.N S.vis scope (ownOf C scope) && ((tslots C 3 tg).all fun i => ((ownOf C scope).map (·.2)).contains i) && !isSet it then
        bnd (iterE C S (f S) tg it) fun items =>
          bnd (inner ((ownOf C scope).map (·.2)) (compL ((ownOf C scope).map (·.2)) (asgE C (setVis S scope) 3 tg) (testsE (g (setVis S scope)) ifs) (f (setVis S scope) elt) items)) fun ds => ret (.list ds)
      else bad
  | _ => bad

def asBool : D → M Bool
  | .bool b => ret b
  | _ => bad
def cmpT (C : Cst) (f : Expr → M D) (a : Expr) (ops : List CmpOp) (bs : List Expr) : M Bool := match ops, bs with
  | [op], [b] => if isSet b then bad else bnd (f a) fun x => bnd (f b) fun y => opt (C.cmp op x y)
  | [op, op'], [b, c] => if isSet b || isSet c then bad else bnd (f a) fun x => bnd (f b) fun y => bnd (opt (C.cmp op x y)) fun k =>
      if k then bnd (f c) fun z => opt (C.cmp op' y z) else ret false
  | _, _ => bad
def stepT (C : Cst) (f : Sc → Expr → M D) (g : Sc → Expr → M Bool) (S : Sc) (e : Expr) : M Bool := match e with
  | .UnaryOp op a _ => (match op with
    | .Not => bnd (g S a) fun b => ret (!b)
    | _ => bad)
  | .BoolOp op es _ => boolT (g S) op es
  | .IfExp _ _ _ _ => bad
  | .Compare a ops bs _ => cmpT C (f S) a ops bs
  | _ => bnd (f S e) asBool

def evP (C : Cst) : Nat → (Sc → Expr → M D) × (Sc → Expr → M Bool)
  | 0 => (fun _ _ => bad, fun _ _ => bad)
  | n + 1 => (stepE C (evP C n).1 (evP C n).2, stepT C (evP C n).1 (evP C n).2)
def ev (C : Cst) (n : Nat) : Sc → Expr → M D := (evP C n).1
def evT (C : Cst) (n : Nat) : Sc → Expr → M Bool := (evP C n).2

/-! ### statements -/
inductive Fl where
  | next
  | ret (d : D)
  | brk

def frz : Sl → Sl
  | .own ds => .val (.list ds)
  | s => s
def scal : D → Bool
  | .none => true
  | .bool _ => true
  | .int _ => true
  | .str _ => true
  | _ => false
def backS : Sl → Sl → Option Sl
  | .own ds, _ => some (.own ds)
  | .par _, .par ds => if ds.all scal then some (.par ds) else none
  | .par _, _ => none
  | o, _ => some o
def restore : En → En → Option En
  | [], [] => some []
  | o :: r, n :: r' => (match backS o n, restore r r' with
    | some s, some t => some (s :: t)
    | _, _ => none)
  | _, _ => none
/-- a test: lists of ours are read, and are ours again behind it -/
def borrow {α : Type} (m : M α) : M α := fun env => match m (env.map frz) with
  | .ok a e' => (match restore env e' with
    | some e'' => .ok a e''
    | none => .bad)
  | .exc c e' => .exc c e'
  | .bad => .bad

/-- a test that draws: the list lent is changed by it -/
def drawT : Expr → Bool
  | .Compare (.Call (.Name x _) _ _ _) _ _ _ => x == ("_law_roll" : Str)
  | _ => false
def tstM (b : Bool) (m : M Bool) : M Bool := if b then m else borrow m
/-- what is stored: a new list of ours, or a value -/
def rhsE (C : Cst) (S : Sc) (f : Expr → M D) (e : Expr) : M Sl := match e with
  | .List es _ => bnd (mapE f es) fun ds => if ds.length ≤ lim then ret (.own ds) else bad
  | .Call (.Name x _) [a] [] _ => if x == ("list" : Str) && bltB C S x && !isStar a then bnd (f a) fun d => (match d with
      | .list ds => ret (.own ds)
      | .tuple ds => ret (.own ds)
      | _ => bad) else bnd (f e) fun d => ret (.val d)
  | _ => bnd (f e) fun d => ret (.val d)

/-- several names are stored -/
def wrNames (C : Cst) (S : Sc) : List Expr → List Sl → M Unit
  | [], [] => ret ()
  | .Name x _ :: es, v :: vs => bnd (wrNames C S es vs) fun _ => wrName C S x v
  | _, _ => bad
def nameOf : Expr → Option Str
  | .Name x _ => some x
  | _ => none
/-- how a tuple of names is stored: as the model has it, by the scope alone -/
def swapC (sc : Scope) (ts vs : List Expr) : Option (Option (List Str)) :=
  if !(ts.length == 2 || ts.length == 3) || vs.length != ts.length then some none
  else if vs.any isStar then some none
  else
    let line := (ts.head?.map (·.pos.line)).getD 0
    let names := ts.filterMap fun
      | .Name id pos => if sc.names.lookup id == some .local && pos.line == line then some id else none
      | _ => none
    if names.length != ts.length || names.eraseDups.length != names.length then some none
    else if vs.all (foldedForSure 8) then some none
    else if vs.all (constantsAlone 8) then none
    else some (some names)
def isComp : Expr → Bool
  | .ListComp _ _ _ _ => true
  | .SetComp _ _ _ _ => true
  | .DictComp _ _ _ _ _ => true
  | _ => false

def forL (asg : D → M Unit) (body : M Fl) : List D → M Fl
  | [] => ret .next
  | d :: r => bnd (asg d) fun _ => bnd body fun f => match f with
    | .next => forL asg body r
    | .brk => ret .next
    | .ret d => ret (.ret d)
def whileL (test : M Bool) (body : M Fl) : Nat → M Fl
  | 0 => bad
  | n + 1 => bnd test fun c => if c then (bnd body fun f => match f with
    | .next => whileL test body n
    | .brk => ret .next
    | .ret d => ret (.ret d)) else ret .next
def blockL (f : Stmt → M Fl) : List Stmt → M Fl
  | [] => ret .next
  | s :: r => bnd (f s) fun x => match x with
    | .next => blockL f r
    | x => ret x

def whileFuel : Nat := 30000


def canW (C : Cst) (S : Sc) (x : Str) : Bool := (slot C x).isSome && locB S.vis x && locB S.asg x
def canWs (C : Cst) (S : Sc) : List Expr → Bool
  | [] => true
  | .Name x _ :: r => canW C S x && canWs C S r
  | _ => false

def stepS (C : Cst) (n : Nat) (ex : Stmt → M Fl) (S : Sc) (st : Stmt) : M Fl := match st with
  | .Pass _ => ret .next
  | .Break _ => ret .brk
  | .Expr e _ => if isComp e then bad else bnd (ev C n S e) fun _ => ret .next
  | .Return none _ => ret (.ret .none)
  | .Return (some e) _ => bnd (ev C n S e) fun d => ret (.ret d)
  | .Raise (some (.Call (.Name c _) [.Constant (.str _) _ _] [] _)) none _ => if C.excs c && gloB S.vis c && (slot C c).isNone then (fun env => .exc c env) else bad
  | .Assign [t] e _ => (match t with
    | .Name x _ => if canW C S x then bnd (rhsE C S (ev C n S) e) fun v => bnd (wrName C S x v) fun _ => ret .next else bad
    | .Tuple ts _ _ => if canWs C S ts then (match e with
      | .Tuple es _ _ => if decide (es.length = ts.length) && decide (es.length ≤ lim) && decide ((ts.filterMap nameOf).Nodup) && (swapC S.vis ts es).isSome then bnd (mapE (rhsE C S (ev C n S)) es) fun vs => bnd (wrNames C S ts vs) fun _ => ret .next else bad
      | _ => bnd (ev C n S e) fun d => bnd (asgE C S 3 t d) fun _ => ret .next)
      else bad
    | .Subscript a i _ => if isSlice i then bad else bnd (ev C n S e) fun d => fun env => (match lentAt C S a env with
      | some j => (bnd (ev C n S i) fun y => fun env' => match lent j env', y with
        | some ds, .int k => if 0 ≤ k ∧ k < ds.length then .ok .next (putL j (ds.set k.toNat d) env') else .bad
        | _, _ => .bad) env
      | none => .bad)
    | _ => bad)
  | .If t a b _ => bnd (tstM (drawT t) (evT C n S t)) fun c => if c then blockL ex a else blockL ex b
  | .For tg it body [] _ => if isSet it then bad else bnd (iterE C S (ev C n S) tg it) fun items => forL (asgE C S 3 tg) (blockL ex body) items
  | .While t body [] _ => whileL (borrow (evT C n S t)) (blockL ex body) whileFuel
  | _ => bad

def exec (C : Cst) (n : Nat) (S : Sc) : Nat → Stmt → M Fl
  | 0, _ => bad
  | m + 1, st => stepS C n (exec C n S m) S st

/-! ### a def -/
def outS : Sl → Sl → Option Sl
  | .par _, .par ds => some (.par ds)
  | .val d, _ => some (.val d)
  | _, _ => none
def outs : En → En → Option En
  | [], _ => some []
  | o :: r, n :: r' => (match outS o n, outs r r' with
    | some s, some t => some (s :: t)
    | _, _ => none)
  | _, _ => none
def endOk {α : Type} (args e : En) (k : En → Res α) : Res α := match outs args e with
  | some o => k o
  | none => .bad
def ended (args : En) : Res Fl → Res D
  | .ok (.ret d) e => endOk args e fun o => .ok d o
  | .ok .next e => endOk args e fun o => .ok .none o
  | .ok .brk _ => .bad
  | .exc c e => endOk args e fun o => .exc c o
  | .bad => .bad
/-! ### the names of a def -/
def compOwn (scope : Scope) : List Str := scope.names.filterMap fun y => match y.2 with
  | .local => some y.1
  | .cell => some y.1
  | _ => none
def namesE : Nat → Expr → List Str
  | 0, _ => []
  | n + 1, e => match e with
    | .BoolOp _ es _ => es.flatMap (namesE n)
    | .BinOp a _ b _ => namesE n a ++ namesE n b
    | .UnaryOp _ a _ => namesE n a
    | .Lambda _ b _ _ => namesE n b
    | .IfExp a b c _ => namesE n a ++ namesE n b ++ namesE n c
    | .Dict _ vs _ => vs.flatMap (namesE n)
    | .ListComp elt gens scope _ => compOwn scope ++ namesE n elt ++ gens.flatMap fun c => namesE n c.iter ++ c.ifs.flatMap (namesE n)
    | .Compare a _ bs _ => namesE n a ++ bs.flatMap (namesE n)
    | .Call f args _ _ => namesE n f ++ args.flatMap (namesE n)
    | .FormattedValue a _ _ _ => namesE n a
    | .JoinedStr es _ => es.flatMap (namesE n)
    | .Attribute a _ _ => namesE n a
    | .Subscript a i _ => namesE n a ++ namesE n i
    | .List es _ => es.flatMap (namesE n)
    | .Tuple es _ _ => es.flatMap (namesE n)
    | .Slice a b c _ => a.toList.flatMap (namesE n) ++ b.toList.flatMap (namesE n) ++ c.toList.flatMap (namesE n)
    | _ => []
def namesS : Nat → Stmt → List Str
  | 0, _ => []
  | n + 1, st => match st with
    | .Return e _ => e.toList.flatMap (namesE n)
    | .Assign ts e _ => ts.flatMap (namesE n) ++ namesE n e
    | .For t i b _ _ => namesE n t ++ namesE n i ++ b.flatMap (namesS n)
    | .While t b _ _ => namesE n t ++ b.flatMap (namesS n)
    | .If t a b _ => namesE n t ++ a.flatMap (namesS n) ++ b.flatMap (namesS n)
    | .Raise e _ _ => e.toList.flatMap (namesE n)
    | .Expr e _ => namesE n e
    | _ => []
def dedup : List Str → List Str → List Str
  | acc, [] => acc.reverse
  | acc, x :: r => if acc.contains x then dedup acc r else dedup (x :: acc) r
structure DI where
  name : Str
  params : Arguments
  body : List Stmt
  scope : Scope
def DI.ps (d : DI) : List Str := d.params.args.map (·.arg)
def DI.N (d : DI) : List Str := dedup [] (d.ps ++ compOwn d.scope ++ d.body.flatMap (namesS 40))
def lamE : Nat → Expr → Bool
  | 0, _ => false
  | n + 1, e => match e with
    | .BoolOp _ es _ => es.any (lamE n)
    | .BinOp a _ b _ => lamE n a || lamE n b
    | .UnaryOp _ a _ => lamE n a
    | .Lambda _ _ _ _ => true
    | .IfExp a b c _ => lamE n a || lamE n b || lamE n c
    | .ListComp elt _ _ _ => lamE n elt
    | .Compare a _ bs _ => lamE n a || bs.any (lamE n)
    | .Call f args _ _ => lamE n f || args.any (lamE n)
    | .List es _ => es.any (lamE n)
    | .Tuple es _ _ => es.any (lamE n)
    | _ => false
def lamS : Nat → Stmt → Bool
  | 0, _ => false
  | n + 1, st => match st with
    | .Return e _ => e.toList.any (lamE n)
    | .Assign _ e _ => lamE n e
    | .For _ i b _ _ => lamE n i || b.any (lamS n)
    | .While t b _ _ => lamE n t || b.any (lamS n)
    | .If t a b _ => lamE n t || a.any (lamS n) || b.any (lamS n)
    | .Expr e _ => lamE n e
    | _ => false
/-- a def in which a lambda is made -/
def DI.lamb (d : DI) : Bool := d.body.any (lamS 40)
def DI.dice (d : DI) : Bool := d.ps.head? == some ("dice" : Str)
/-- the defs of a program's top -/
def defsOf (P : Program) : List DI := P.main.body.filterMap fun st => match st with
  | .FunctionDef name args body _ _ _ scope _ _ _ => some ⟨name, args, body, scope⟩
  | _ => none
/-- a def's run: its body from its arguments -/
def synFuel : Nat := 60
def runDef (C : Cst) (n m : Nat) (S : Sc) (body : List Stmt) (k : Nat) (args : En) : Res D :=
  if args.length = k then ended args (blockL (exec C n S m) body (args ++ List.replicate (C.N.length - k) .non)) else .bad

/-- what a program's runs lean on -/
structure Tb where
  trm : Str → Option D
  op : Operator → D → D → Option D
  cmp : CmpOp → D → D → Option Bool
  isi : Str → D → Option Bool
  bf : Str → List D → Option D
  mt : Str → D → List D → Option D
  ix : D → D → Option D
  sl : D → Option Int → Option Int → Option D
  rv : D → Option D
  glob : Str → Option D
  excs : Str → Bool
  defs : List DI
def Tb.find (t : Tb) (f : Str) : Option DI := t.defs.find? fun d => d.name == f
def Tb.arity (t : Tb) (f : Str) : Option (Bool × Nat) := (t.find f).map fun d => (d.dice, d.ps.length)
def Tb.cst0 (t : Tb) (N : List Str) (call : Str → En → Res D) (lam : Sc → Expr → M D) (told : Str → Bool) : Cst := ⟨N, t.op, t.cmp, t.isi, t.bf, t.mt, t.ix, t.sl, t.rv, call, t.arity, t.glob, t.excs, lam, told, t.trm⟩
def Tb.low (t : Tb) (N : List Str) (call : Str → En → Res D) : Cst := t.cst0 N call (fun _ _ => bad) fun _ => false
def Tb.lam (t : Tb) (N : List Str) (low : Option (Str → En → Res D)) (S : Sc) (e : Expr) : M D := match low with
  | some r => ev (t.low N r) synFuel S e
  | none => bad
def Tb.cst (t : Tb) (N : List Str) (lm : Bool) (call : Str → En → Res D) (low : Option (Str → En → Res D)) : Cst := t.cst0 N call (t.lam N low) fun x => lm && x == ("_law_told" : Str)
def runD (t : Tb) (call : Str → En → Res D) (low : Option (Str → En → Res D)) (f : Str) (args : En) : Res D := match t.find f with
  | some d => runDef (t.cst d.N d.lamb call low) synFuel synFuel ⟨d.scope, d.scope⟩ d.body d.ps.length args
  | none => .bad
def runs (t : Tb) : Nat → (Str → En → Res D) × Option (Str → En → Res D) × Option (Str → En → Res D)
  | 0 => (fun _ _ => .bad, none, none)
  | k + 1 => (runD t (runs t k).1 (runs t k).2.2, some (runs t k).1, (runs t k).2.1)
def runK (t : Tb) (k : Nat) : Str → En → Res D := (runs t k).1
def lowK (t : Tb) (k : Nat) : Option (Str → En → Res D) := (runs t k).2.2
theorem lowK_2 (t : Tb) (k : Nat) : lowK t (k + 2) = some (runK t k) := rfl

end TD

set_option Elab.async false
set_option linter.all false
set_option maxRecDepth 100000
/-! TD2: data in a view of the abstract heap; slots; readings by the evaluator. -/
namespace TD
open PySem PySem.Spec PyProof.Rows L2

mutual
inductive Rp (K : PySem.W.Frag) (G : Hp) : V → D → Prop
  | non : Rp K G .non .none
  | bl (b : Bool) : Rp K G (.bl b) (.bool b)
  | int (i : Int) : Rp K G (.int i) (.int i)
  | str (x : Str) : Rp K G (.str x) (.str x)
  | lst {a : Addr} {xs : List V} {ds : List D} : G a = some (.lst xs) → RpAll K G xs ds → Rp K G (.ref a) (.list ds)
  | tup {a : Addr} {xs : List V} {ds : List D} : SqT K G a xs → RpAll K G xs ds → Rp K G (.ref a) (.tuple ds)
  | dct {a : Addr} {kvs : List (Str × Str)} : G a = some (.dK (kvs.map fun p => (Sum.inr p.1, V.str p.2))) → Rp K G (.ref a) (dictD kvs)
inductive RpAll (K : PySem.W.Frag) (G : Hp) : List V → List D → Prop
  | nil : RpAll K G [] []
  | cons {v : V} {vs : List V} {d : D} {ds : List D} : Rp K G v d → RpAll K G vs ds → RpAll K G (v :: vs) (d :: ds)
end

abbrev Sub (G H : Hp) : Prop := Same G H
theorem sqT_sub {K : PySem.W.Frag} {H H' : Hp} {a : Addr} {xs : List V} (e : Sub H H') (h : SqT K H a xs) : SqT K H' a xs := by
  rcases h with (h | ⟨o, h⟩) | h
  · exact .inl (.inl (e _ _ h))
  · exact .inl (.inr ⟨o, e _ _ h⟩)
  · exact .inr h

mutual
theorem Rp.mono {K : PySem.W.Frag} {G G' : Hp} (e : Sub G G') : ∀ {v : V} {d : D}, Rp K G v d → Rp K G' v d
  | _, _, .non => .non
  | _, _, .bl b => .bl b
  | _, _, .int i => .int i
  | _, _, .str x => .str x
  | _, _, .lst h r => .lst (e _ _ h) (RpAll.mono e r)
  | _, _, .tup h r => .tup (sqT_sub e h) (RpAll.mono e r)
  | _, _, .dct h => .dct (e _ _ h)
theorem RpAll.mono {K : PySem.W.Frag} {G G' : Hp} (e : Sub G G') : ∀ {vs : List V} {ds : List D}, RpAll K G vs ds → RpAll K G' vs ds
  | _, _, .nil => .nil
  | _, _, .cons r t => .cons (Rp.mono e r) (RpAll.mono e t)
end
mutual
theorem Rp.dp {K : PySem.W.Frag} {G H : Hp} (e : Sub G H) : ∀ {v : V} {d : D}, Rp K G v d → PyData.canLay0 d = true → Dp K H v d
  | _, _, .non, _ => .non
  | _, _, .bl b, _ => .bl b
  | _, _, .int i, _ => .int i
  | _, _, .str x, _ => .str x
  | _, _, .lst h r, c => .lst (.inl (.inl (e _ _ h))) (RpAll.dp e r c)
  | _, _, .tup h r, c => .tup (sqT_sub e h) (RpAll.dp e r c)
  | _, _, .dct h, c => by unfold dictD at c; simp only [PyData.canLay0] at c; cases c
theorem RpAll.dp {K : PySem.W.Frag} {G H : Hp} (e : Sub G H) : ∀ {vs : List V} {ds : List D}, RpAll K G vs ds → PyData.canLayAll0 ds = true → DpAll K H vs ds
  | _, _, .nil, _ => .nil
  | _, _, .cons r t, c => by
    rw [PyData.canLayAll0, Bool.and_eq_true] at c
    exact .cons (Rp.dp e r c.1) (RpAll.dp e t c.2)
end

section
variable {K : PySem.W.Frag} {G : Hp}
theorem RpAll.length : ∀ {vs : List V} {ds : List D}, RpAll K G vs ds → vs.length = ds.length
  | _, _, .nil => rfl
  | _, _, .cons _ t => by simp [RpAll.length t]
theorem RpAll.get : ∀ {vs : List V} {ds : List D} {i : Nat} {v : V}, RpAll K G vs ds → vs[i]? = some v → ∃ d, ds[i]? = some d ∧ Rp K G v d
  | _, _, _, _, .nil, e => by simp at e
  | _, _, 0, _, .cons r _, e => by simp at e; subst e; exact ⟨_, rfl, r⟩
  | _, _, i + 1, v, .cons _ t, e => by
    obtain ⟨u, h1, h2⟩ := RpAll.get (i := i) (v := v) t (by simpa using e)
    exact ⟨u, by simpa using h1, h2⟩
theorem RpAll.getD : ∀ {vs : List V} {ds : List D} {i : Nat} {d : D}, RpAll K G vs ds → ds[i]? = some d → ∃ v, vs[i]? = some v ∧ Rp K G v d
  | _, _, _, _, .nil, e => by simp at e
  | _, _, 0, _, .cons r _, e => by simp at e; subst e; exact ⟨_, rfl, r⟩
  | _, _, i + 1, v, .cons _ t, e => by
    obtain ⟨u, h1, h2⟩ := RpAll.getD (i := i) (d := v) t (by simpa using e)
    exact ⟨u, by simpa using h1, h2⟩
theorem RpAll.append : ∀ {vs us : List V} {ds es : List D}, RpAll K G vs ds → RpAll K G us es → RpAll K G (vs ++ us) (ds ++ es)
  | _, _, _, _, .nil, s => s
  | _, _, _, _, .cons r t, s => .cons r (RpAll.append t s)
theorem RpAll.take : ∀ {vs : List V} {ds : List D} (n : Nat), RpAll K G vs ds → RpAll K G (vs.take n) (ds.take n)
  | _, _, 0, _ => .nil
  | _, _, _ + 1, .nil => .nil
  | _, _, n + 1, .cons r t => .cons r (RpAll.take n t)
theorem RpAll.drop : ∀ {vs : List V} {ds : List D} (n : Nat), RpAll K G vs ds → RpAll K G (vs.drop n) (ds.drop n)
  | _, _, 0, r => r
  | _, _, _ + 1, .nil => .nil
  | _, _, n + 1, .cons _ t => RpAll.drop n t
theorem RpAll.set : ∀ {vs : List V} {ds : List D} (n : Nat) {v : V} {d : D}, Rp K G v d → RpAll K G vs ds → RpAll K G (vs.set n v) (ds.set n d)
  | _, _, _, _, _, _, .nil => .nil
  | _, _, 0, _, _, h, .cons _ t => .cons h t
  | _, _, n + 1, _, _, h, .cons r t => .cons r (RpAll.set n h t)
theorem RpAll.eraseIdx : ∀ {vs : List V} {ds : List D} (n : Nat), RpAll K G vs ds → RpAll K G (vs.eraseIdx n) (ds.eraseIdx n)
  | _, _, _, .nil => .nil
  | _, _, 0, .cons _ t => t
  | _, _, n + 1, .cons r t => .cons r (RpAll.eraseIdx n t)
theorem RpAll.reverse {vs : List V} {ds : List D} (h : RpAll K G vs ds) : RpAll K G vs.reverse ds.reverse := by
  induction vs generalizing ds with
  | nil => cases h; exact .nil
  | cons v vs ih =>
    cases h with
    | cons r t => rw [List.reverse_cons, List.reverse_cons]; exact (ih t).append (.cons r .nil)
theorem RpAll.dropLast {vs : List V} {ds : List D} (h : RpAll K G vs ds) : RpAll K G vs.dropLast ds.dropLast := by
  rw [List.dropLast_eq_take, List.dropLast_eq_take, h.length]
  exact h.take _
theorem Rp.scal {v : V} {d : D} (h : Rp K G v d) (s : scal d = true) (G' : Hp) : Rp K G' v d := by
  cases h with
  | non => exact .non
  | bl b => exact .bl b
  | int i => exact .int i
  | str x => exact .str x
  | lst _ _ => cases s
  | tup _ _ => cases s
  | dct _ => cases s
theorem RpAll.scal : ∀ {vs : List V} {ds : List D}, RpAll K G vs ds → ds.all scal = true → ∀ G' : Hp, RpAll K G' vs ds
  | _, _, .nil, _, _ => .nil
  | _, _, .cons r t, s, G' => by
    rw [List.all_cons, Bool.and_eq_true] at s
    exact .cons (r.scal s.1 G') (RpAll.scal t s.2 G')
/-- inversions -/
theorem Rp.toInt {v : V} {i : Int} (h : Rp K G v (.int i)) : v = .int i := by cases h; rfl
theorem Rp.toBl {v : V} {b : Bool} (h : Rp K G v (.bool b)) : v = .bl b := by cases h; rfl
theorem Rp.toStr {v : V} {x : Str} (h : Rp K G v (.str x)) : v = .str x := by cases h; rfl
theorem Rp.toNon {v : V} (h : Rp K G v .none) : v = .non := by cases h; rfl
theorem Rp.toLst {v : V} {ds : List D} (h : Rp K G v (.list ds)) : ∃ a xs, v = .ref a ∧ G a = some (.lst xs) ∧ RpAll K G xs ds := by
  cases h with
  | lst h r => exact ⟨_, _, rfl, h, r⟩
theorem Rp.toTup {v : V} {ds : List D} (h : Rp K G v (.tuple ds)) : ∃ a xs, v = .ref a ∧ SqT K G a xs ∧ RpAll K G xs ds := by
  cases h with
  | tup h r => exact ⟨_, _, rfl, h, r⟩
end

/-- what may stand in a view -/
def Vw : HO → Prop
  | .lst xs => xs.length ≤ sizeLine
  | .tup xs => xs.length ≤ sizeLine
  | .dK _ => True
  | _ => False
structure View (G H : Hp) : Prop where
  sub : Sub G H
  vw : ∀ b o, G b = some o → Vw o
theorem View.lst {K : PySem.W.Frag} {G H : Hp} {v : V} {ds : List D} (h : View G H) (r : Rp K G v (.list ds)) : ds.length ≤ sizeLine := by
  obtain ⟨a, xs, _, g, q⟩ := r.toLst
  rw [← q.length]
  exact h.vw _ _ g
theorem View.tup {K : PySem.W.Frag} {G H : Hp} {v : V} {ds : List D} (h : View G H) (r : Rp K G v (.tuple ds)) : ds.length ≤ sizeLine := by
  obtain ⟨a, xs, _, g, q⟩ := r.toTup
  rw [← q.length]
  rcases g with (g | ⟨o, g⟩) | ⟨o, its, n, _, _, _, hz, r⟩
  · exact h.vw _ _ g
  · exact (h.vw _ _ g).elim
  · have e := r.length
    simp only [Array.length_toList] at e
    omega

/-- new things alone -/
structure Grow (G H G' H' : Hp) : Prop where
  sub : Sub G G'
  keep : Sub H H'
  new : ∀ b o, G' b = some o → G b = none → H b = none
  view : View G' H'
theorem Grow.refl {G H : Hp} (v : View G H) : Grow G H G H := ⟨Same.refl _, Same.refl _, fun b o h h' => (by rw [h] at h'; cases h'), v⟩
theorem Grow.trans {G H G1 H1 G2 H2 : Hp} (a : Grow G H G1 H1) (b : Grow G1 H1 G2 H2) : Grow G H G2 H2 := by
  refine ⟨a.sub.trans b.sub, a.keep.trans b.keep, fun c o h n => ?_, b.view⟩
  cases q : G1 c with
  | some u => exact a.new c u q n
  | none => exact a.keep.free (b.new c o h q)
theorem sub_upd {H : Hp} {p : Addr} {o : HO} (h : H p = none) : Sub H (upd H p o) := fun b x e => by
  rw [upd_ne (ne_of_none e h)]
  exact e
theorem View.none {G H : Hp} (v : View G H) {p : Addr} (h : H p = none) : G p = none := v.sub.free h
/-- a new object in the view -/
theorem Grow.fresh {G H : Hp} {p : Addr} {o : HO} (v : View G H) (h : H p = none) (w : Vw o) : Grow G H (upd G p o) (upd H p o) := by
  refine ⟨sub_upd (v.none h), sub_upd h, fun b u e n => ?_, ⟨fun b u e => ?_, fun b u e => ?_⟩⟩
  · by_cases hb : b = p
    · rw [hb]; exact h
    · rw [upd_ne hb, n] at e; cases e
  · by_cases hb : b = p
    · rw [hb, upd_same] at e ⊢; exact e
    · rw [upd_ne hb] at e ⊢; exact v.sub _ _ e
  · by_cases hb : b = p
    · rw [hb, upd_same] at e; cases e; exact w
    · rw [upd_ne hb] at e; exact v.vw _ _ e
/-- a new object out of the view -/
theorem Grow.junk {G H : Hp} {p : Addr} {o : HO} (v : View G H) (h : H p = none) : Grow G H G (upd H p o) :=
  ⟨Same.refl _, sub_upd h, fun b u e n => (by rw [e] at n; cases n), ⟨v.sub.trans (sub_upd h), v.vw⟩⟩

/-! ### the state of a body -/
structure Gh where
  K : PySem.W.Frag
  T : List (Addr × Str)
  B : Nat → Option Addr
  F : Hp
  cl : Str → Value

def SlOk (g : Gh) (G H : Hp) (σ : L2.St) (i : Nat) : Sl → Prop
  | .non => True
  | .val d => ∃ v, σ[i]? = some (some v) ∧ Rp g.K G v d
  | .own ds => ∃ a vs, σ[i]? = some (some (.ref a)) ∧ H a = some (.lst vs) ∧ G a = none ∧ g.F a = none ∧ vs.length ≤ sizeLine ∧ RpAll g.K G vs ds
  | .par ds => ∃ a vs, σ[i]? = some (some (.ref a)) ∧ H a = some (.lst vs) ∧ G a = none ∧ g.F a = none ∧ vs.length ≤ sizeLine ∧ RpAll g.K G vs ds ∧ g.B i = some a
def At (env : En) (σ : L2.St) (i : Nat) (a : Addr) : Prop := (lent i env).isSome = true ∧ σ[i]? = some (some (.ref a))

structure Rl (g : Gh) (G H : Hp) (σ : L2.St) (env : En) : Prop where
  len : env.length = σ.length
  view : View G H
  frame : ∀ b o, g.F b = some o → (∀ ps, o ≠ .tbl ps) → H b = some o
  fdom : ∀ b o, g.F b = some o → (∃ o', H b = some o') ∧ G b = none
  tabs : LamX.Tabs g.T H
  sl : ∀ i s, env[i]? = some s → SlOk g G H σ i s
  apart : ∀ i j a, At env σ i a → At env σ j a → i = j

theorem lent_iff {i : Nat} {env : En} {ds : List D} : lent i env = some ds ↔ env[i]? = some (.own ds) ∨ env[i]? = some (.par ds) := by
  unfold lent
  constructor
  · intro h
    split at h
    · rename_i q; cases h; exact .inl q
    · rename_i q; cases h; exact .inr q
    · cases h
  · rintro (h | h) <;> rw [h]
/-- a list of ours or lent, as it stands -/
theorem Rl.lent {g : Gh} {G H : Hp} {σ : L2.St} {env : En} (R : Rl g G H σ env) {i : Nat} {ds : List D} (h : TD.lent i env = some ds) :
    ∃ a vs, σ[i]? = some (some (.ref a)) ∧ H a = some (.lst vs) ∧ G a = none ∧ g.F a = none ∧ vs.length ≤ sizeLine ∧ RpAll g.K G vs ds ∧ At env σ i a := by
  rcases lent_iff.mp h with q | q
  · obtain ⟨a, vs, h1, h2, h3, h4, h5, h6⟩ := R.sl i _ q
    exact ⟨a, vs, h1, h2, h3, h4, h5, h6, by rw [h]; rfl, h1⟩
  · obtain ⟨a, vs, h1, h2, h3, h4, h5, h6, _⟩ := R.sl i _ q
    exact ⟨a, vs, h1, h2, h3, h4, h5, h6, by rw [h]; rfl, h1⟩

theorem Grow.out {G H G' H' : Hp} (q : Grow G H G' H') {a : Addr} {o : HO} (h2 : H a = some o) (h3 : G a = none) : G' a = none := by
  cases e : G' a with
  | none => rfl
  | some u =>
    rw [q.new a u e h3] at h2
    cases h2
theorem SlOk.grow {g : Gh} {G H G' H' : Hp} {σ : L2.St} {i : Nat} (q : Grow G H G' H') : ∀ {s : Sl}, SlOk g G H σ i s → SlOk g G' H' σ i s
  | .non, _ => trivial
  | .val d, ⟨v, h, r⟩ => ⟨v, h, r.mono q.sub⟩
  | .own ds, ⟨a, vs, h1, h2, h3, h4, h5, h6⟩ => ⟨a, vs, h1, q.keep _ _ h2, q.out h2 h3, h4, h5, h6.mono q.sub⟩
  | .par ds, ⟨a, vs, h1, h2, h3, h4, h5, h6, h7⟩ => ⟨a, vs, h1, q.keep _ _ h2, q.out h2 h3, h4, h5, h6.mono q.sub, h7⟩
theorem Rl.grow {g : Gh} {G H G' H' : Hp} {σ : L2.St} {env : En} (R : Rl g G H σ env) (q : Grow G H G' H') : Rl g G' H' σ env := by
  refine ⟨R.len, q.view, fun b o e n => q.keep _ _ (R.frame b o e n), fun b o e => ?_, R.tabs.ext q.keep, fun i s e => (R.sl i s e).grow q, R.apart⟩
  obtain ⟨⟨o', h⟩, h2⟩ := R.fdom b o e
  refine ⟨⟨o', q.keep _ _ h⟩, ?_⟩
  cases e' : G' b with
  | none => rfl
  | some u => rw [q.new b u e' h2] at h; cases h

/-! ### readings -/
section
variable (g : Gh) (W : WX)
def Go (G : Hp) (σ : L2.St) {α : Type} (r : Res α) (Q : α → En → Hp → Hp → Prop) : Prop := match r with
  | .ok a e' => ∀ G' H', Rl g G' H' σ e' → Sub G G' → Q a e' G' H'
  | .exc c e' => ∀ G' H', Rl g G' H' σ e' → Sub G G' → W (g.cl c) none σ H'
  | .bad => False
def rdE (m : M D) : TE := fun σ H Q => ∃ G env, Rl g G H σ env ∧ Go g W G σ (m env) fun d _ G' H' => ∀ v, Rp g.K G' v d → Q v H'
def rdT (m : M Bool) : TT := fun σ H Q => ∃ G env, Rl g G H σ env ∧ Go g W G σ (m env) fun b _ _ H' => Q b H'
def rdA (m : M (List D)) : TA := fun σ H Q => ∃ G env, Rl g G H σ env ∧ Go g W G σ (m env) fun ds _ G' H' => ∀ vs, RpAll g.K G' vs ds → Q vs H'
def GoS (G : Hp) {α : Type} (r : Res α) (Q : α → En → L2.St → Hp → Hp → Prop) : Prop := match r with
  | .ok a e' => ∀ σ' G' H', Rl g G' H' σ' e' → Sub G G' → Q a e' σ' G' H'
  | .exc c e' => ∀ σ' G' H', Rl g G' H' σ' e' → Sub G G' → W (g.cl c) none σ' H'
  | .bad => False
def flowTo (E : Ends) (f : Fl) (σ' : L2.St) (G' H' : Hp) : Prop := match f with
  | .next => E.nx σ' H'
  | .brk => E.bk σ' H'
  | .ret d => ∀ v, Rp g.K G' v d → E.rt v H'
def rdS (m : M Fl) : TS := fun E σ H => ∃ G env, Rl g G H σ env ∧ GoS g W G (m env) fun f _ σ' G' H' => flowTo g E f σ' G' H'
end

section
variable {g : Gh} {W : WX} {G G' : Hp} {σ : L2.St} {α β : Type}
theorem Go.mono {r : Res α} {Q : α → En → Hp → Hp → Prop} (s : Sub G G') (h : Go g W G σ r Q) : Go g W G' σ r Q := by
  cases r with
  | ok a e => exact fun G2 H2 R S => h G2 H2 R (s.trans S)
  | exc c e => exact fun G2 H2 R S => h G2 H2 R (s.trans S)
  | bad => exact h
theorem Go.imp {r : Res α} {Q Q' : α → En → Hp → Hp → Prop} (h : Go g W G σ r Q) (f : ∀ a e' G' H', Rl g G' H' σ e' → Sub G G' → Q a e' G' H' → Q' a e' G' H') : Go g W G σ r Q' := by
  cases r with
  | ok a e => exact fun G2 H2 R S => f a e G2 H2 R S (h G2 H2 R S)
  | exc c e => exact h
  | bad => exact h
theorem Go.bnd {m : M α} {f : α → M β} {env : En} {Q : β → En → Hp → Hp → Prop} (h : Go g W G σ (bnd m f env) Q) : Go g W G σ (m env) fun a e' G' _ => Go g W G' σ (f a e') Q := by
  unfold TD.bnd at h
  cases q : m env with
  | ok a e => rw [q] at h; exact fun G2 H2 R S => Go.mono S h
  | exc c e => rw [q] at h; exact h
  | bad => rw [q] at h; exact h
theorem GoS.mono {r : Res α} {Q : α → En → L2.St → Hp → Hp → Prop} (s : Sub G G') (h : GoS g W G r Q) : GoS g W G' r Q := by
  cases r with
  | ok a e => exact fun σ2 G2 H2 R S => h σ2 G2 H2 R (s.trans S)
  | exc c e => exact fun σ2 G2 H2 R S => h σ2 G2 H2 R (s.trans S)
  | bad => exact h
theorem GoS.imp {r : Res α} {Q Q' : α → En → L2.St → Hp → Hp → Prop} (h : GoS g W G r Q) (f : ∀ a e' σ' G' H', Rl g G' H' σ' e' → Sub G G' → Q a e' σ' G' H' → Q' a e' σ' G' H') : GoS g W G r Q' := by
  cases r with
  | ok a e => exact fun σ2 G2 H2 R S => f a e σ2 G2 H2 R S (h σ2 G2 H2 R S)
  | exc c e => exact h
  | bad => exact h
theorem GoS.bnd {m : M α} {f : α → M β} {env : En} {Q : β → En → L2.St → Hp → Hp → Prop} (h : GoS g W G (bnd m f env) Q) : GoS g W G (m env) fun a e' _ G' _ => GoS g W G' (f a e') Q := by
  unfold TD.bnd at h
  cases q : m env with
  | ok a e => rw [q] at h; exact fun σ2 G2 H2 R S => GoS.mono S h
  | exc c e => rw [q] at h; exact h
  | bad => rw [q] at h; exact h
/-- an expression's part of a statement -/
theorem GoS.go {r : Res α} {Q : α → En → L2.St → Hp → Hp → Prop} (h : GoS g W G r Q) : Go g W G σ r fun a e' G' H' => Q a e' σ G' H' := by
  cases r with
  | ok a e => exact fun G2 H2 R S => h σ G2 H2 R S
  | exc c e => exact fun G2 H2 R S => h σ G2 H2 R S
  | bad => exact h
theorem Go.opt {o : Option α} {env : En} {Q : α → En → Hp → Hp → Prop} (h : Go g W G σ (opt o env) Q) : ∃ a, o = some a ∧ ∀ G' H', Rl g G' H' σ env → Sub G G' → Q a env G' H' := by
  cases o with
  | none => exact h.elim
  | some a => exact ⟨a, rfl, h⟩
theorem Go.ret {a : α} {env : En} {Q : α → En → Hp → Hp → Prop} (h : Go g W G σ (ret a env) Q) : ∀ G' H', Rl g G' H' σ env → Sub G G' → Q a env G' H' := h
end

/-! ### rules by weaker readings -/
theorem PE.of {X : Cx} {e : Expr} {t t' : TE} (h : PE X e t) (f : ∀ σ H Q, t' σ H Q → t σ H Q) : PE X e t' := ⟨fun pins s σ H Q I q => h.run pins s σ H Q I (f σ H Q q)⟩
theorem PT.of {X : Cx} {e : Expr} {t t' : TT} (h : PT X e t) (f : ∀ σ H Q, t' σ H Q → t σ H Q) : PT X e t' := ⟨fun pins s σ H Q I q => h.run pins s σ H Q I (f σ H Q q)⟩
theorem PW.of {X : Cx} {e : Expr} {t t' : TT} (h : PW X e t) (f : ∀ σ H Q, t' σ H Q → t σ H Q) : PW X e t' := ⟨fun wh pins s σ H Q I q => h.run wh pins s σ H Q I (f σ H Q q)⟩
theorem PA.of {X : Cx} {es : List Expr} {t t' : TA} (h : PA X es t) (f : ∀ σ H Q, t' σ H Q → t σ H Q) : PA X es t' := ⟨fun pos pins s σ H Q I q => h.run pos pins s σ H Q I (f σ H Q q)⟩
theorem PS.of {X : Cx} {st : Stmt} {t t' : TS} (h : PS X st t) (f : ∀ E σ H, t' E σ H → t E σ H) : PS X st t' := ⟨fun pins s σ H E I q => h.run pins s σ H E I (f E σ H q)⟩
theorem PSs.of {X : Cx} {st : List Stmt} {t t' : TS} (h : PSs X st t) (f : ∀ E σ H, t' E σ H → t E σ H) : PSs X st t' := ⟨fun pins s σ H E I q => h.run pins s σ H E I (f E σ H q)⟩
theorem PG.of {X : Cx} {e : Expr} {t t' : TG} (h : PG X e t) (f : ∀ v σ H Q, t' v σ H Q → t v σ H Q) : PG X e t' := ⟨fun pins s σ H v u Q I r q => h.run pins s σ H v u Q I r (f v σ H Q q)⟩
/-- nothing to show -/
theorem pe_false {X : Cx} {e : Expr} {t : TE} (f : ∀ σ H Q, t σ H Q → False) : PE X e t := ⟨fun pins s σ H Q I q => (f σ H Q q).elim⟩
theorem pt_false {X : Cx} {e : Expr} {t : TT} (f : ∀ σ H Q, t σ H Q → False) : PT X e t := ⟨fun pins s σ H Q I q => (f σ H Q q).elim⟩
theorem ps_false {X : Cx} {e : Stmt} {t : TS} (f : ∀ E σ H, t E σ H → False) : PS X e t := ⟨fun pins s σ H E I q => (f E σ H q).elim⟩
theorem pg_false {X : Cx} {e : Expr} {t : TG} (f : ∀ v σ H Q, t v σ H Q → False) : PG X e t := ⟨fun pins s σ H v u Q I r q => (f v σ H Q q).elim⟩
end TD

set_option Elab.async false
set_option linter.all false
set_option maxRecDepth 100000
/-! TH1: lists walked while an exception is handled. -/
namespace TD
open PySem PySem.Spec PyProof.Rows L2 HotX
section
variable {prog : Program} {w : World} {A : Around} {E : Value → Shared → Prop} {s : Shared}
/-- a list's iterator ends while an exception is handled -/
theorem next_end_hot {it l x1 : Addr} {i : Nat} {its : Array Value} {Q : Option Value → Shared → Prop} (hot : HotAt A x1 s.heap) (hne : x1 ≠ it) (hit : s.heap.IsListIter it l i) (hl : s.heap.IsList l its) (hx : its[i]? = none)
    (hQ : ∀ h', Heap.ExtBut it s.heap h' → Q none { s with heap := h' }) : wpAny (model prog w) A (pyNext (.ref it)) Q E s := by
  obtain ⟨o, ho, hc, hd⟩ := id hit
  obtain ⟨ol, hol, _, nl, hdl⟩ := hl
  obtain ⟨hh, o1, vs1, g1, d1, c1⟩ := hot
  unfold pyNext
  refine wpAny_bind (wpAny_attempt (wpAny_callSpecial?_slot (name := Str.ofString "__next__") hit.typeIs slot_listiter_next (wpAny_call_entry slot_listiter_next hit.typeIs entry_listiter_next ?_ (args_listiter_next _))))
  show wpAny _ _ (field (.ref it) 0 >>= _) _ _ s
  refine wpAny_bind (wpAny_field ho hd (x := .ref l) rfl ?_)
  show wpAny _ _ (if (Value.ref l == Value.none) = true then _ else _) _ _ s
  rw [if_neg (show ¬ ((Value.ref l == Value.none) = true) from Bool.false_ne_true)]
  show wpAny _ _ (field (.ref it) 1 >>= _) _ _ s
  refine wpAny_bind (wpAny_field ho hd (x := .int i 0) rfl ?_)
  show wpAny _ _ (seqItems? (.ref l) >>= _) _ _ s
  refine wpAny_bind (wpAny_seqItems hol hdl ?_)
  simp only [Int.toNat_natCast, hx]
  refine wpAny_bind (wpAny_rule (wpAny_bind (wpAny_setField ho hd (by simp) ?_)))
  show wpAny _ _ (newExc (.type "StopIteration") [] >>= _) _ _ _
  refine wpAny_bind ?_
  simp only [newExc, newTuple]
  refine wpAny_bind (wpAny_newObj_type ?_ (by size_fits))
  refine wpAny_bind (m := firstArgMember _ _) (wpAny_of_eq (a := Value.none) (by first | rfl | (simp only [firstArgMember]; rfl)) ?_)
  refine wpAny_newObj_type ?_ (by size_fits)
  have g2 := (Heap.get?_update_other (h := s.heap) (a := it) (b := x1) (Obj.mapFields fun x => x.setIfInBounds 0 .none) (by simpa using hne.symm)).trans g1
  refine raiseNew_hot ⟨hh, o1, vs1, Heap.get?_push_of_some _ (Heap.get?_push_of_some _ g2), d1, c1⟩ (Nat.ne_of_lt (Heap.lt_size (Heap.get?_push_of_some _ g2))) (Heap.get?_push_size _ rfl) rfl (by first | (simp; done) | (simp; omega) | (simp only [Array.size_append]; simp; omega)) ?_
  refine wpAny_bind (wpAny_isInstance (T := "StopIteration") (b := true) ⟨_, Heap.get?_update_self _ (Heap.get?_push_size _ rfl) rfl, rfl⟩ isSubtype_stop ?_)
  refine wpAny_pure (hQ _ fun b ob hb e => ?_)
  have e2 := (Heap.get?_update_other (h := s.heap) (a := it) (b := b) (Obj.mapFields fun x => x.setIfInBounds 0 .none) (by simpa using hb.symm)).trans e
  rw [Heap.get?_update_other _ _ (Nat.ne_of_gt (Heap.lt_size (Heap.get?_push_of_some _ e2)))]
  exact Heap.get?_push_of_some _ (Heap.get?_push_of_some _ e2)
/-- what is known of the handled exception's object -/
def HotO (h : Heap) (x1 : Addr) : Prop := ∃ (o : Obj) (vs : Array Value), h.get? x1 = some o ∧ o.data = .fields vs ∧ vs[2]? = some .none
theorem walks_hot {it l x1 : Addr} (hh : A.handled = some (.ref x1)) (h1 : l ≠ it) (h2 : x1 ≠ it) (its : Array Value) :
    Walks prog w A it [it, l, x1] [it] its.size (fun i v => its[i]? = some v) (fun i h => h.IsListIter it l i ∧ h.IsList l its ∧ HotO h x1) where
  sub := fun b hb => by simp at hb; simp [hb]
  frame := fun _ h h' st hk => ⟨st.1.at fun o e => hk it (by simp) o e, st.2.1.at fun o e => hk l (by simp) o e, by
    obtain ⟨o, vs, e1, e2, e3⟩ := st.2.2
    exact ⟨o, vs, hk x1 (by simp) o e1, e2, e3⟩⟩
  item := fun i s Q E hi st hQ => by
    refine wpAny_pyNext_list_item st.1 st.2.1 (x := its[i]) (by simp [hi]) fun h' hit' hs' => ?_
    obtain ⟨o, vs, e1, e2, e3⟩ := st.2.2
    exact hQ _ h' s.toks (by simp [hi]) ⟨hit', st.2.1.extBut hs'.extBut h1, o, vs, hs'.extBut x1 o h2 e1, e2, e3⟩ fun b o hb e => hs'.extBut b o (fun h => hb (by simp [h])) e
  done := fun s Q E st hQ => by
    obtain ⟨o, vs, e1, e2, e3⟩ := st.2.2
    exact next_end_hot ⟨hh, o, vs, e1, e2, e3⟩ h2 st.1 st.2.1 (by simp) fun h' eb => hQ h' s.toks fun b o hb e => eb b o (fun h => hb (by simp [h])) e
  self := fun _ _ _ _ st h => wpAny_pyIter_listiter st.1 h
/-- sum(xs) of a list of ints while an exception is handled -/
theorem sum_hot {l x1 : Addr} {its : List Value} {ns : List Int} {Q : Value → Shared → Prop} (hot : HotAt A x1 s.heap) (hl : s.heap.IsList l its.toArray) (hi : IntsAre its ns)
    (h : ∀ h' tk t', (∀ b o, s.heap.get? b = some o → h'.get? b = some o) → Q (.int ns.sum t') { s with heap := h', toks := tk }) : wpAny (model prog w) A (call (.builtin "sum") [.ref l]) Q E s := by
  obtain ⟨xs, e⟩ := hi.allInts.items
  have hn : numsOf (intItems xs).toList = ns := by rw [← e]; exact hi.numsOf
  rw [nums_intItems] at hn
  rw [e] at hl
  refine call_sum_walkG (iter_intList hl fun s₂ e st hfp hlI => ?_)
  subst e
  obtain ⟨hh, o, vs, e1, e2, e3⟩ := hot
  have lx : x1 ≠ s.heap.objs.size := Nat.ne_of_lt (Heap.lt_size e1)
  refine ⟨_, _, _, _, _, _, numAt xs, rfl, walks_hot (A := A.in1) hh hlI lx (intItems xs), ⟨st.1, st.2, o, vs, Heap.get?_push_of_some _ e1, e2, e3⟩, fun b hb => ?_, (fun _ _ => intItems_at), fun h' tk t' hk => ?_⟩
  · simp only [List.mem_cons, List.not_mem_nil, or_false] at hb
    rcases hb with h | h | h
    · exact hfp b (by simp [h])
    · exact hfp b (by simp [h])
    · rw [h]
      show x1 < (s.heap.push _).objs.size
      rw [Heap.size_push]
      exact Nat.lt_succ_of_lt (Heap.lt_size e1)
  · have q := h h' tk t' (old_kept hk)
    rw [preSum_eq, List.take_of_length_le (by simp [intItems]), hn]
    exact q
end
end TD

set_option Elab.async false
set_option linter.all false
set_option maxRecDepth 100000
/-! TH2: a list comprehension while an exception is handled. -/
namespace TD
open PySem PySem.Spec PyProof.Rows L2 HotX L2H
theorem sqL_sub {K : PySem.W.Frag} {H H' : Hp} {a : Addr} {xs : List V} (e : ∀ b o, H b = some o → H' b = some o) (h : SqL K H a xs) : SqL K H' a xs := by
  rcases h with (h | ⟨o, h⟩) | h
  · exact .inl (.inl (e _ _ h))
  · exact .inl (.inr ⟨o, e _ _ h⟩)
  · exact .inr h
def tLh (K : PySem.W.Frag) (tl te : TE) (vs : List Nat) (j : Nat) : TE := fun σ H Q => tl σ H fun v H1 => ∃ (a : Addr) (xs ys : List V), v = .ref a ∧ SqL K H1 a xs ∧ xs.length = ys.length ∧
  (∀ (i : Nat) (x : V), xs[i]? = some x → ∀ H2, te ((wipe σ vs).set j (some x)) H2 fun y H3 => H3 = H2 ∧ ys[i]? = some y) ∧ ∀ D, H1 D = none → Q (.ref D) (upd H1 D (.lst ys))
section
variable {X : Cx}
theorem lc_hot {elt l : Expr} {y : Str} {py pos : Pos} {tl te : TE} {scope : Scope} {own : List (Str × Nat)} {j : Nat} (hc : HotC X) (hN : X.N.Nodup) (hl : PE X l tl) (ok : BlkOk X.N X.env.scope scope own) (hjv : j ∈ own.map (·.2))
    (hg : ∀ (s : Shared) (H : Hp) (C : Addr) (cl : List (Str × Addr)) (fp : List Addr), PG (X.blk s H scope (compEnvC scope cl C X.env) fp) (.Name y py) (gName j))
    (he : ∀ (s : Shared) (H : Hp) (C : Addr) (cl : List (Str × Addr)) (fp : List Addr), PE (X.blk s H scope (compEnvC scope cl C X.env) fp) elt te) (hs : ∀ x, foldedSetIterable l X.env x = pure x) :
    PE X (.ListComp elt [⟨.Name y py, l, [], 0⟩] scope pos) (tLh X.K tl te (own.map (·.2)) j) := by
  refine ⟨fun pins s σ H Q I h => ?_⟩
  rw [eval_ListComp]
  have hfree : ∀ z ∈ scope.names, z.2 = .free → ∃ c, X.env.cells.lookup z.1 = some c := fun z hz e => (ok.free z hz e).elim (fun k => I.ok.has _ (.inl k)) fun k => I.ok.has _ (.inr k)
  refine wpAny_comprehension_free (use := none) rfl hs (closure_ok hfree) ok.kind (fun z hz e => by rw [ok.uniq z hz, e]) (thn (hl.run pins s σ H _ I h) fun xv s1 ⟨v, H1, I1, r1, q1⟩ => ?_)
  obtain ⟨a, xs, ys, rfl, hq, hlen, hte, hQ⟩ := q1
  cases r1
  obtain ⟨its, rv, pl, hz⟩ := I1.list hq
  refine wpAny_pyIter_list pl.isList ?_
  -- the iterator
  generalize hs2 : ({ s1 with heap := s1.heap.push { cls := .type "list_iterator", data := .fields #[.ref a, .int 0 0] } } : Shared) = s2
  have hit : s2.heap.IsListIter s1.heap.objs.size a 0 := by rw [← hs2]; exact ⟨_, Heap.get?_push_size _ rfl, rfl, rfl⟩
  have I2 : Inv X pins σ H1 s2 := by rw [← hs2]; exact I1.kept (t' := s1.toks) fun b o e => Heap.get?_push_of_some _ e
  have sz2 : s1.heap.objs.size < s2.heap.objs.size := by rw [← hs2]; show _ < (s1.heap.push _).objs.size; rw [Heap.size_push]; exact Nat.lt_succ_self _
  have fpI : FpOk X pins H1 s1.heap.objs.size := I1.fpOk (Nat.le_refl _) (I1.hok.fresh (Nat.le_refl _))
  generalize s1.heap.objs.size = it at hit sz2 fpI
  -- the new list
  refine wpAny_newObj_type (newEnv_comp ?_) (by show 0 ≤ sizeLine; decide)
  generalize hD : s2.heap.objs.size = D at sz2 ⊢
  have hDn : H1 D = none := I2.hok.fresh (Nat.le_of_eq hD)
  generalize hs3 : ({ s2 with heap := s2.heap.push { cls := .type "list", data := .seq ([] : List Value).toArray } } : Shared) = s3
  have h3 : s3.heap = s2.heap.push { cls := .type "list", data := .seq ([] : List Value).toArray } := by rw [← hs3]
  have I3 : Inv X pins σ (upd H1 D (.lst [])) s3 := by
    rw [← hs3]
    refine I2.laid (t' := s2.toks) (fun b o e => Heap.get?_push_of_some _ e) (Nat.le_of_eq hD) ⟨Nat.zero_le _, [], 0, .nil, ?_⟩
    rw [← hD]
    exact Heap.get?_push_size _ rfl
  have hit3 : s3.heap.IsListIter it a 0 := by rw [h3]; exact hit.at fun o e => Heap.get?_push_of_some _ e
  have hf3 : ∀ b ∈ [it], FpOk X pins (upd H1 D (.lst [])) b ∧ b < s3.heap.objs.size := fun b hb => by
    have e : b = it := by simpa using hb
    subst e
    exact ⟨⟨by rw [upd_ne (Nat.ne_of_lt sz2)]; exact fpI.1, fpI.2⟩, by rw [h3, Heap.size_push, hD]; exact Nat.lt_succ_of_lt sz2⟩
  have I4 := block_start I3 ok hN hf3
  have pg := hg s3 (upd H1 D (.lst [])) s3.heap.objs.size (cellsFrom (s3.heap.objs.size + 1) scope.names (cloFrom X.env.cells scope.names [])) [it]
  have pe := he s3 (upd H1 D (.lst [])) s3.heap.objs.size (cellsFrom (s3.heap.objs.size + 1) scope.names (cloFrom X.env.cells scope.names [])) [it]
  show codeAny _ _ (.compStart (.ListComp elt [⟨.Name y py, l, [], 0⟩] scope pos) 0 (.ref it) (.ref D) (compEnvC scope (cellsFrom (s3.heap.objs.size + 1) scope.names (cloFrom X.env.cells scope.names [])) s3.heap.objs.size X.env)) (compPost (model X.prog X.w) X.A X.xe none (EP X pins σ Q) (.ref D) s3.heap.objs.size) { s3 with heap := pushCells (s3.heap.push { cls := .type "dict", data := .dict #[] }) scope.names }
  generalize hce : compEnvC scope (cellsFrom (s3.heap.objs.size + 1) scope.names (cloFrom X.env.cells scope.names [])) s3.heap.objs.size X.env = ce at I4 pg pe ⊢
  have cL : ce.locals = s3.heap.objs.size := by subst hce; rfl
  generalize hH3 : upd H1 D (.lst []) = H3 at I3 I4 pg pe hf3
  generalize hs4 : ({ s3 with heap := pushCells (s3.heap.push { cls := .type "dict", data := .dict #[] }) scope.names } : Shared) = s4 at I4 ⊢
  have hit4 : s4.heap.IsListIter it a 0 := by rw [← hs4]; exact hit3.at fun o e => pushCells_keeps _ _ _ _ (Heap.get?_push_of_some _ e)
  have hDa : ∀ zs : List V, SqL X.K (upd H1 D (.lst zs)) a xs := fun zs => sqL_sub (fun b o e => by rw [upd_ne (ne_of_none e hDn)]; exact e) hq
  -- the handled exception in the block
  obtain ⟨p, hot, hp⟩ := hc
  have pin3 := I3.pin p (List.mem_append_left _ hp)
  have hotB : ∀ {σ' : L2.St} {H' : Hp} {s' : Shared}, Inv (X.blk s3 H3 scope ce [it]) [] σ' H' s' → HotAt X.A p.1 s'.heap ∧ p.1 ≠ it := fun {σ' H' s'} I' => by
    have ne : p.1 ≠ it := (hf3 it (by simp)).1.2.2.2.2.2 p (List.mem_append_left _ hp)
    obtain ⟨hh, vs, e1, e2⟩ := hot
    refine ⟨⟨hh, p.2, vs, I'.base.keep p.1 p.2 pin3.1 pin3.2.1 (fun hm => ?_) (by simpa using ne), e1, e2⟩, ne⟩
    exact (List.mem_cons.mp (I3.stkSub p.1 hm)).elim pin3.2.2.1 pin3.2.2.2.1
  have stat : ∀ {σ' : L2.St} {H' : Hp} {s' : Shared}, Inv (X.blk s3 H3 scope ce [it]) [] σ' H' s' → H' it = none → FpOk (X.blk s3 H3 scope ce [it]) [] H' it := fun {σ' H' s'} I' hn =>
    ⟨hn, (I'.ok.exf it (by simp)).1, I'.ok.exfs it (by simp), .inl (by simp), fun x c e => (I'.ok.exf it (by simp)).2 x c e, fun q hq => absurd (show q ∈ ([] : List (Addr × Obj)) ++ [] from hq) (by simp)⟩
  have itn : ∀ zs : List V, upd H1 D (.lst zs) it = none := fun zs => by rw [upd_ne (Nat.ne_of_lt sz2)]; exact fpI.1
  have loop : codeAny (model X.prog X.w) X.A (.compLoop (.ListComp elt [⟨.Name y py, l, [], 0⟩] scope pos) 0 (.ref it) (.ref D) ce) (compPost (model X.prog X.w) X.A X.xe none (EP X pins σ Q) (.ref D) s3.heap.objs.size) s4 := by
    refine compLoop_any (fun n s' => ∃ i, i + n = xs.length ∧ s'.heap.IsListIter it a i ∧ Inv (X.blk s3 H3 scope ce [it]) [] (wipe σ (own.map (·.2))) (upd H1 D (.lst (ys.take i))) s') ?_ xs.length ⟨0, by omega, hit4, by rw [List.take_zero, hH3]; exact I4⟩
    rintro n s5 ⟨i, hi, hit5, I5⟩
    obtain ⟨hotA, neIt⟩ := hotB I5
    obtain ⟨its5, rv5, pl5, _⟩ := I5.list (hDa (ys.take i))
    obtain ⟨f0, f1, f2, f3, f4, f5⟩ := stat I5 (itn _)
    have lv := rv5.length
    by_cases hlt : i < xs.length
    · obtain ⟨u, hu, ru⟩ := rv5.get (List.getElem?_eq_getElem hlt)
      refine wpAny_pyNext_list_item hit5 pl5.isList (x := u) (by simpa using hu) fun h' st' sb => ?_
      have I6 : Inv (X.blk s3 H3 scope ce [it]) [] (wipe σ (own.map (·.2))) (upd H1 D (.lst (ys.take i))) { s5 with heap := h' } := I5.turned (t' := s5.toks) (fun b o hb e => (sb.2 b hb).trans e) f0 f1 f3 f4 f5
      obtain ⟨o, eo, co, d0⟩ := id st'
      refine go_of (s := { s5 with heap := h' }) eo co d0 (by decide) ?_
      have st6 : ∀ b ∈ [it], FpOk (X.blk s3 H3 scope ce [it]) [] (upd H1 D (.lst (ys.take i))) b := fun b hb => by
        rw [show b = it by simpa using hb]
        exact stat I6 (itn _)
      have ob6 : ∀ b ∈ [it], ∃ o, h'.get? b = some o ∧ ∀ v, o.data ≠ .cell v := fun b hb => by
        rw [show b = it by simpa using hb]
        exact ⟨o, eo, fun v z => by rw [d0] at z; cases z⟩
      have I7 := I6.pinned st6 ob6
      refine thnF (pg.run _ _ _ _ xs[i] u (fun σ2 H2 => σ2 = (wipe σ (own.map (·.2))).set j (some xs[i]) ∧ H2 = upd H1 D (.lst (ys.take i))) I7 ru ⟨rfl, rfl⟩) fun _ s8 ⟨σ8, H8, I8, e8, e9⟩ => ?_
      subst e8 e9
      refine wpAny_tests_nil ?_
      show if true = true then _ else _
      rw [if_pos rfl]
      refine thnF (pe.run _ s8 _ _ _ I8 (hte i xs[i] (List.getElem?_eq_getElem hlt) _)) fun z s9 ⟨yv, H9, I9, r9, eH, hy⟩ => ?_
      subst eH
      have hyl : i < ys.length := by omega
      have hyv : ys[i] = yv := by rw [List.getElem?_eq_getElem hyl] at hy; exact Option.some.inj hy
      refine app_ok (X := X.blk s3 H3 scope ce [it]) I9 upd_same (by rw [List.length_take]; omega) r9 fun s10 I10 => ?_
      have e10 : upd (upd H1 D (.lst (ys.take i))) D (.lst (ys.take i ++ [yv])) = upd H1 D (.lst (ys.take (i + 1))) := by
        rw [upd_upd, List.take_succ_eq_append_getElem hyl, hyv]
      rw [e10] at I10
      refine ⟨n - 1, by omega, i + 1, by omega, ?_, ?_⟩
      · exact st'.at fun o' e' => (I10.pin (it, o') (List.mem_append_right _ (List.mem_append_right _ (mem_pinsAt (by simp) e')))).1
      · refine (I10.unpinned (pins := [])).weak (by simp) (fun m v e => ?_)
        by_cases hm : m = j
        · subst hm
          exact absurd hjv (wipe_some e).2
        · rw [List.getElem?_set_ne (Ne.symm hm)]
          exact e
    · refine next_end_hot hotA neIt hit5 pl5.isList (by simp; omega) fun h' eb => ?_
      have I6 : Inv (X.blk s3 H3 scope ce [it]) [] (wipe σ (own.map (·.2))) (upd H1 D (.lst (ys.take i))) { s5 with heap := h' } := I5.turned (t' := s5.toks) (fun b o hb e => eb b o hb e) f0 f1 f3 f4 f5
      rw [List.take_of_length_le (by omega)] at I6
      have I7 : Inv X pins σ (upd H1 D (.lst ys)) { s5 with heap := h' } := I3.call' (ch := [it]) I6.os I6.base I6.hok I6.bare fun b hb => by
        have hb' := (hf3 b hb).1.2
        exact ⟨hb'.2.2.1, hb'.1, hb'.2.2.2.1, hb'.2.2.2.2⟩
      have nC : upd H1 D (.lst ys) s3.heap.objs.size = none := by
        have z := I6.free
        rw [show (X.blk s3 H3 scope ce [it]).env = ce from rfl, cL] at z
        exact z
      obtain ⟨m, hn, _⟩ := I6.loc
      rw [show (X.blk s3 H3 scope ce [it]).env = ce from rfl, cL] at hn
      refine ⟨m, hn, fun h'' sb => ?_⟩
      obtain ⟨g0, g1, g2, g3, g4, g5⟩ := I3.fpOk (Nat.le_refl _) nC
      exact ⟨.ref D, _, I7.turned (t' := s5.toks) (fun b o hb e => (sb.2 b hb).trans e) g0 g1 g3 g4 g5, rfl, hQ D hDn⟩
  exact codeAny_compStart_list loop (wpAny_pyIter_listiter hit4 loop)
end
end TD

set_option Elab.async false
set_option linter.all false
set_option maxRecDepth 100000
/-! TH3: the def that names a refusal's class, while the refusal is handled. -/
namespace TD
open PySem PySem.Spec PyProof.Rows L2 HotX L2H
def kindsL : List Str := ["BadFolk", "BadName", "BadDay", "BadMoment", "BadNumber", "BadSaying", "BadBook", "BadCounts", "BadWeb", "Nothing", "BadText"]
def isiE (P : Nat → Pos) (k : Nat) (c : Str) : Expr := .Call (.Name "isinstance" (P k)) [.Name "e" (P (k + 1)), .Name c (P (k + 2))] [] (P (k + 3))
def isiL (P : Nat → Pos) : Nat → List Str → List Expr
  | _, [] => []
  | k, c :: r => isiE P k c :: isiL P (k + 4) r
def strL (P : Nat → Pos) : Nat → List Str → List Expr
  | _, [] => []
  | k, c :: r => .Constant (.str c) 0 (P k) :: strL P (k + 1) r
def cScope : Scope := { kind := .function, names := [(".0", .local), ("flag", .local), ("int", .globalImplicit)], isGenerator := false, isCoroutine := false, more := [] }
def termBody (P : Nat → Pos) (cs : Scope) : List Stmt := [
  .Assign [.Name "flags" (P 0)] (.List (isiL P 1 ["BadFolk", "BadName", "BadDay", "BadMoment"]) (P 17)) (P 18),
  .Assign [.Name "flags" (P 19)] (.BinOp (.Name "flags" (P 20)) .Add (.List (isiL P 21 ["BadNumber", "BadSaying", "BadBook"]) (P 33)) (P 34)) (P 35),
  .Assign [.Name "flags" (P 36)] (.BinOp (.Name "flags" (P 37)) .Add (.List (isiL P 38 ["BadCounts", "BadWeb", "Nothing", "BadText"]) (P 54)) (P 55)) (P 56),
  .Assign [.Name "kinds" (P 57)] (.List (strL P 58 ["BadFolk", "BadName", "BadDay", "BadMoment", "BadNumber", "BadSaying", "BadBook", "BadCounts"]) (P 66)) (P 67),
  .Assign [.Name "kinds" (P 68)] (.BinOp (.Name "kinds" (P 69)) .Add (.List (strL P 70 ["BadWeb", "Nothing", "BadText"]) (P 73)) (P 74)) (P 75),
  .If (.BoolOp .Or [.Compare (.Call (.Name "sum" (P 76)) [.ListComp (.Call (.Name "int" (P 77)) [.Name "flag" (P 78)] [] (P 79)) [⟨.Name "flag" (P 80), .Name "flags" (P 81), [], 0⟩] cs (P 82)] [] (P 83)) [.NotEq] [.Constant (.int 1) 0 (P 84)] (P 85),
      .UnaryOp .Not (isiE P 86 "ValueError") (P 90)] (P 91))
    [.Return (some (.Tuple [.Constant (.str "refused") 0 (P 92), .Constant (.str "other") 0 (P 93)] 0 (P 94))) (P 95)] [] (P 96),
  .Return (some (.Tuple [.Constant (.str "refused") 0 (P 97), .Subscript (.Name "kinds" (P 98)) (.Call (.Attribute (.Name "flags" (P 99)) "index" (P 100)) [.Constant (.bool true) 0 (P 101)] [] (P 102)) (P 103)] 0 (P 104))) (P 105)]
def nTerm : List Str := ["e", "flags", "kinds", ".0", "flag"]
/-- what is known of the classes -/
structure TermF (K : PySem.W.Frag) (mg : Str → Option Value) (cl : Str → Value) : Prop where
  cls : ∀ c ∈ kindsL, ∃ D, cl c = .ref D ∧ mg c = some (.ref D) ∧ L2.ExcC K D ∧ PySem.W.kitOne K (.ref D) (.type "ValueError") = some true
  two : ∀ c ∈ kindsL, ∀ c' ∈ kindsL, PySem.W.kitOne K (cl c) (cl c') = some (c == c')
  fi : mg "isinstance" = none
  fs : mg "sum" = none
  fn : mg "int" = none
  fv : mg "ValueError" = none
def flagsOf (c : Str) (l : List Str) : List V := l.map fun k => V.bl (c == k)
section
variable {Z : Cx} {cl : Str → Value}
theorem call_isH {a D : Addr} {oe : Obj} (hp : (a, oe) ∈ Z.pn) (C : L2.ExcC Z.K D) (hz : Zc (.ref D) none oe) (hf : ∃ vs, oe.data = .fields vs) : CallR Z (.builtin "isinstance") (rIsE Z.K D a) := by
  intro pins s σ H xs us Q I r h
  obtain ⟨c, cv, b, rfl, hcv, e, q⟩ := h
  cases r with
  | cons rx rr =>
    cases rr with
    | cons rt rr =>
      cases rr
      cases rx
      have ec := hcv _ rt
      subst ec
      obtain ⟨hget, _⟩ := I.pin (a, oe) (List.mem_append_left _ hp)
      obtain ⟨vs, hv⟩ := hf
      have J : PySem.W.InstAt s.heap a oe D none := by
        obtain ⟨oc, od, oda, osl⟩ := oe
        obtain ⟨h1, h2⟩ := hz
        dsimp only at h1 h2 hv
        subst h1 h2 hv
        exact ⟨hget, rfl, rfl, trivial⟩
      exact PySem.W.kia_one (PySem.W.handS_kitx_exc C.hg C.hk C.hs C.hd C.ha C.hn C.ht C.hm) I.kIn J e (fun z => nomatch z) fun tk => ⟨.bl b, H, I.kept (t' := tk) fun _ _ z => z, rfl, q⟩
structure TermX (Z : Cx) (cl : Str → Value) (a : Addr) (c : Str) : Prop where
  f : TermF Z.K Z.mg cl
  n : Z.N = nTerm
  g : ∀ y ∈ (("isinstance" : Str) :: "sum" :: "ValueError" :: kindsL), Gl Z y
  v : ∀ y ∈ (["e", "flags", "kinds"] : List Str), Z.env.scope.names.lookup y = some .local
  k : c ∈ kindsL
  p : ∃ D oe, cl c = .ref D ∧ (a, oe) ∈ Z.pn ∧ Zc (.ref D) none oe ∧ ∃ vs, oe.data = .fields vs
def tIsi (a : Addr) (c k : Str) : TE := fun σ H Q => σ[0]? = some (some (.ref a)) ∧ Q (.bl (c == k)) H
theorem pe_isiC {a : Addr} {c : Str} (X : TermX Z cl a c) {P : Nat → Pos} {i : Nat} {k : Str} (hk : k ∈ kindsL) : PE Z (isiE P i k) (tIsi a c k) := by
  obtain ⟨D, oe, hD, hp, hz, hf⟩ := X.p
  obtain ⟨D1, e1, m1, C1, _⟩ := X.f.cls c X.k
  obtain ⟨D2, e2, m2, _, _⟩ := X.f.cls k hk
  have hDD : D1 = D := by rw [hD] at e1; cases e1; rfl
  subst hDD
  have h2 := X.f.two c X.k k hk
  rw [hD, e2] at h2
  have hdb : (k == ("__debug__" : Str)) = false := by
    simp only [kindsL, List.mem_cons, List.not_mem_nil, or_false] at hk
    rcases hk with h | h | h | h | h | h | h | h | h | h | h <;> subst h <;> decide
  refine PE.of (pe_callB (call_isH hp C1 hz hf) (X.g _ (by simp)) X.f.fi PyProof.Rows.boot_isinstance (pa_cons (pe_var (i := 0) (by rw [X.n]; rfl) (.inl (X.v _ (by simp)))) (pa_cons (pe_glob (v := .ref D2) (X.g _ (by simp [hk])) m2 rfl (hd := hdb)) pa_nil)) (by decide) (by decide)) fun σ H Q ⟨h0, q⟩ => ?_
  exact ⟨_, h0, .ref D2, .ref D2, c == k, rfl, fun u hu => hu, h2, q⟩
theorem pe_isiV {a : Addr} {c : Str} (X : TermX Z cl a c) {P : Nat → Pos} {i : Nat} : PE Z (isiE P i "ValueError") (fun σ H Q => σ[0]? = some (some (.ref a)) ∧ Q (.bl true) H) := by
  obtain ⟨D, oe, hD, hp, hz, hf⟩ := X.p
  obtain ⟨D1, e1, m1, C1, hv⟩ := X.f.cls c X.k
  have hDD : D1 = D := by rw [hD] at e1; cases e1; rfl
  subst hDD
  refine PE.of (pe_callB (call_isH hp C1 hz hf) (X.g _ (by simp)) X.f.fi PyProof.Rows.boot_isinstance (pa_cons (pe_var (i := 0) (by rw [X.n]; rfl) (.inl (X.v _ (by simp)))) (pa_cons (pe_bltn (v := .ty "ValueError") (u := .type "ValueError") (X.g _ (by simp)) X.f.fv (by rfl) rfl (by decide) (by decide)) pa_nil)) (by decide) (by decide)) fun σ H Q ⟨h0, q⟩ => ?_
  exact ⟨_, h0, .ty "ValueError", .type "ValueError", true, rfl, fun u hu => hu, hv, q⟩
def tIsis (a : Addr) (c : Str) (l : List Str) : TA := fun σ H Q => σ[0]? = some (some (.ref a)) ∧ Q (flagsOf c l) H
theorem pa_isis {a : Addr} {c : Str} (X : TermX Z cl a c) {P : Nat → Pos} : ∀ {l : List Str} {i : Nat}, (∀ k ∈ l, k ∈ kindsL) → PA Z (isiL P i l) (tIsis a c l)
  | [], i, _ => PA.of pa_nil fun σ H Q ⟨_, q⟩ => q
  | k :: l, i, h => PA.of (pa_cons (pe_isiC X (h k (by simp))) (pa_isis X fun k' hk => h k' (by simp [hk]))) fun σ H Q ⟨h0, q⟩ => ⟨h0, h0, q⟩
def tStrs (l : List Str) : TA := fun _ H Q => Q (l.map V.str) H
theorem pa_strs {P : Nat → Pos} : ∀ {l : List Str} {i : Nat}, PA Z (strL P i l) (tStrs l)
  | [], i => PA.of pa_nil fun σ H Q q => q
  | k :: l, i => PA.of (pa_cons pe_str pa_strs) fun σ H Q q => q
theorem term_facts {c : Str} (h : c ∈ kindsL) : ∃ j : Nat, (kindsL.map fun k => (c == k))[j]? = some true ∧ (∀ m, m < j → (kindsL.map fun k => (c == k))[m]? = some false) ∧ kindsL[j]? = some c ∧ ((kindsL.map fun k => if (c == k) = true then (1 : Int) else 0)).sum = 1 ∧ j < 11 := by
  have key : ∀ c ∈ kindsL, (let bs := kindsL.map fun k => (c == k); (List.range 11).any fun j => decide (bs[j]? = some true) && ((List.range j).all fun m => decide (bs[m]? = some false)) && decide (kindsL[j]? = some c) && decide ((kindsL.map fun k => if (c == k) = true then (1 : Int) else 0).sum = 1)) = true := by decide +kernel
  have := key c h
  rw [List.any_eq_true] at this
  obtain ⟨j, hj, e⟩ := this
  simp only [Bool.and_eq_true, decide_eq_true_eq, List.all_eq_true, List.mem_range] at e hj
  exact ⟨j, e.1.1.1, e.1.1.2, e.1.2, e.2, hj⟩
theorem call_sumH {X : Cx} (hc : HotC X) : CallR X (.builtin "sum") (rSum X.K) := by
  intro pins s σ H vs us Q I r h
  obtain ⟨a, ns, rfl, hs, q⟩ := h
  obtain ⟨its, rv, hl, _⟩ := I.list hs
  rw [Vals.ref1 r]
  obtain ⟨x1, hot⟩ := hc.at I
  exact sum_hot hot hl.isList rv.ints fun h' tk t' hk => ⟨.int _, H, I.kept hk, ⟨_, rfl⟩, q⟩
theorem up_ne {H : Hp} {p q : Addr} {o u : HO} (h : H q = some u) (hp : H p = none) : upd H p o q = some u := by rw [upd_ne (ne_of_none h hp)]; exact h
theorem term_run {a : Addr} {c : Str} (X : TermX Z cl a c) {P : Nat → Pos} {cs : Scope} (hc : HotC Z) (hb : BlkOk Z.N Z.env.scope cs [(".0", 3), ("flag", 4)])
    (hgi : ∀ (s : Shared) (H : Hp) (C : Addr) (cl' : List (Str × Addr)) (fp : List Addr), Gl (Z.blk s H cs (compEnvC cs cl' C Z.env) fp) "int") (hvi : ∀ (C : Addr) (cl' : List (Str × Addr)), (compEnvC cs cl' C Z.env).scope.names.lookup ("flag" : Str) = some .local) (hl5 : ((P 100).endLine == (P 102).line) = true) :
    ∃ t, PSs Z (termBody P cs) t ∧ ∀ (Q : VK) (H : Hp), (∀ p H', Sub H H' → H p = none → H' p = some (.tup [.str "refused", .str c]) → Q (.ref p) H') → t { nx := fun _ H' => Q .non H', rt := Q } (L2.start nTerm [.ref a]) H := by
  have hN : Z.N.Nodup := by rw [X.n]; decide +kernel
  have vl : ∀ {i : Nat} {y : Str} {p : Pos}, Z.N[i]? = some y → y ∈ (["e", "flags", "kinds"] : List Str) → PE Z (.Name y p) (tVar i) := fun {i y p} h hy => by
    have hd : (y == ("__debug__" : Str)) = false ∧ (y == ("__classdict__" : Str)) = false := by
      simp only [List.mem_cons, List.not_mem_nil, or_false] at hy
      rcases hy with h | h | h <;> subst h <;> decide
    exact pe_var h (.inl (X.v y hy)) hd.1 hd.2
  have n1 : Z.N[1]? = some ("flags" : Str) := by rw [X.n]; rfl
  have n2 : Z.N[2]? = some ("kinds" : Str) := by rw [X.n]; rfl
  have n4 : Z.N[4]? = some ("flag" : Str) := by rw [X.n]; rfl
  have l1 : L2.Loc Z.env.scope "flags" := .inl (X.v _ (by simp))
  have l2 : L2.Loc Z.env.scope "kinds" := .inl (X.v _ (by simp))
  have f1 : Z.fn "flags" = true ∨ Z.env.scope.names.lookup ("flags" : Str) = some .local := .inr (X.v _ (by simp))
  have f2 : Z.fn "kinds" = true ∨ Z.env.scope.names.lookup ("kinds" : Str) = some .local := .inr (X.v _ (by simp))
  obtain ⟨j, j1, j2, j3, j4, j5⟩ := term_facts X.k
  have h1 : PE Z (.List (isiL P 1 ["BadFolk", "BadName", "BadDay", "BadMoment"]) (P 17)) _ := pe_lst (pa_isis X (by decide +kernel))
  have h2 : PE Z (.BinOp (.Name "flags" (P 20)) .Add (.List (isiL P 21 ["BadNumber", "BadSaying", "BadBook"]) (P 33)) (P 34)) _ := pe_op op_cat (vl n1 (by simp)) (pe_lst (pa_isis X (by decide +kernel)))
  have h3 : PE Z (.BinOp (.Name "flags" (P 37)) .Add (.List (isiL P 38 ["BadCounts", "BadWeb", "Nothing", "BadText"]) (P 54)) (P 55)) _ := pe_op op_cat (vl n1 (by simp)) (pe_lst (pa_isis X (by decide +kernel)))
  have h4 : PE Z (.List (strL P 58 ["BadFolk", "BadName", "BadDay", "BadMoment", "BadNumber", "BadSaying", "BadBook", "BadCounts"]) (P 66)) _ := pe_lst pa_strs
  have h5 : PE Z (.BinOp (.Name "kinds" (P 69)) .Add (.List (strL P 70 ["BadWeb", "Nothing", "BadText"]) (P 73)) (P 74)) _ := pe_op op_cat (vl n2 (by simp)) (pe_lst pa_strs)
  have he : ∀ (s : Shared) (H : Hp) (C : Addr) (cl' : List (Str × Addr)) (fp : List Addr), PE (Z.blk s H cs (compEnvC cs cl' C Z.env) fp) (.Call (.Name "int" (P 77)) [.Name "flag" (P 78)] [] (P 79)) _ := fun s H C cl' fp =>
    pe_callTy (X := Z.blk s H cs (compEnvC cs cl' C Z.env) fp) call_int1 (hgi s H C cl' fp) X.f.fn (by rfl) (pa_cons (pe_var (X := Z.blk s H cs (compEnvC cs cl' C Z.env) fp) n4 (.inl (hvi C cl'))) pa_nil) (by decide) (by decide)
  have h6 : PE Z (.ListComp (.Call (.Name "int" (P 77)) [.Name "flag" (P 78)] [] (P 79)) [⟨.Name "flag" (P 80), .Name "flags" (P 81), [], 0⟩] cs (P 82)) _ := lc_hot hc hN (vl n1 (by simp)) hb (by simp)
        (fun s H C cl' fp => pg_name (X := Z.blk s H cs (compEnvC cs cl' C Z.env) fp) hN n4 (.inl (hvi C cl')) (.inr (hvi C cl'))) he (fun x => rfl)
  have h7 : PT Z (.Compare (.Call (.Name "sum" (P 76)) [.ListComp (.Call (.Name "int" (P 77)) [.Name "flag" (P 78)] [] (P 79)) [⟨.Name "flag" (P 80), .Name "flags" (P 81), [], 0⟩] cs (P 82)] [] (P 83)) [.NotEq] [.Constant (.int 1) 0 (P 84)] (P 85)) _ :=
    pt_cmpR op_ne (pe_callB (call_sumH hc) (X.g _ (by simp)) X.f.fs PyProof.Rows.boot_sum (pa_cons h6 pa_nil) (by decide) (by decide)) pe_int rfl
  have h8 : PT Z (.UnaryOp .Not (isiE P 86 "ValueError") (P 90)) _ := pt_not (pt_val (pe_isiV X))
  have h9 : PE Z (.Call (.Attribute (.Name "flags" (P 99)) "index" (P 100)) [.Constant (.bool true) 0 (P 101)] [] (P 102)) _ := pe_bm PySem.F.plainAttrs_list PySem.F.slot_list_index PySem.F.type_list_index mt_index (vl n1 (by simp)) (pa_cons pe_bl pa_nil) (hline := hl5)
  have h10 : PE Z (.Subscript (.Name "kinds" (P 98)) (.Call (.Attribute (.Name "flags" (P 99)) "index" (P 100)) [.Constant (.bool true) 0 (P 101)] [] (P 102)) (P 103)) _ := pe_ix ix_list (vl n2 (by simp)) h9 (fun _ _ => rfl)
  refine ⟨_, pss_cons (ps_set hN n1 l1 h1 rfl f1) (pss_cons (ps_set hN n1 l1 h2 rfl f1) (pss_cons (ps_set hN n1 l1 h3 rfl f1) (pss_cons (ps_set hN n2 l2 h4 rfl f2) (pss_cons (ps_set hN n2 l2 h5 rfl f2)
    (pss_cons (ps_if (pw_or h7 (pw_or1 h8)).pt (pss_one (ps_ret (pe_tup (pa_cons pe_str (pa_cons pe_str pa_nil))))) pss_nil) (pss_one (ps_ret (pe_tup (pa_cons pe_str (pa_cons h10 pa_nil)))))))))), fun Q H hQ => ?_⟩
  have sl : (11 : Nat) ≤ sizeLine := by decide
  refine ⟨rfl, by show (4 : Nat) ≤ sizeLine; omega, fun p1 e1 => ?_⟩
  generalize g1 : upd H p1 (.lst _) = H1
  have a1 : H1 p1 = some (.lst (flagsOf c ["BadFolk", "BadName", "BadDay", "BadMoment"])) := by rw [← g1]; exact upd_same
  have s1 : Sub H H1 := by rw [← g1]; exact sub_upd e1
  refine ⟨.ref p1, rfl, rfl, by show (3 : Nat) ≤ sizeLine; omega, fun p2 e2 => ⟨p1, p2, _, _, rfl, rfl, up_ne a1 e2, upd_same, by show 4 + 3 ≤ sizeLine; omega, fun p3 e3 => ?_⟩⟩
  generalize g3 : upd (upd H1 p2 _) p3 _ = H3
  have a3 : H3 p3 = some (.lst (flagsOf c ["BadFolk", "BadName", "BadDay", "BadMoment"] ++ flagsOf c ["BadNumber", "BadSaying", "BadBook"])) := by rw [← g3]; exact upd_same
  have s3 : Sub H H3 := by rw [← g3]; exact (s1.trans (sub_upd e2)).trans (sub_upd e3)
  refine ⟨.ref p3, rfl, rfl, by show (4 : Nat) ≤ sizeLine; omega, fun p4 e4 => ⟨p3, p4, _, _, rfl, rfl, up_ne a3 e4, upd_same, by show 4 + 3 + 4 ≤ sizeLine; omega, fun p5 e5 => ?_⟩⟩
  generalize g5 : upd (upd H3 p4 _) p5 _ = H5
  have a5 : H5 p5 = some (.lst (kindsL.map fun k => V.bl (c == k))) := by rw [← g5]; exact upd_same
  have s5 : Sub H H5 := by rw [← g5]; exact (s3.trans (sub_upd e4)).trans (sub_upd e5)
  refine ⟨by show (8 : Nat) ≤ sizeLine; omega, fun p6 e6 => ?_⟩
  generalize g6 : upd H5 p6 _ = H6
  have a6 : H6 p6 = some (.lst ((["BadFolk", "BadName", "BadDay", "BadMoment", "BadNumber", "BadSaying", "BadBook", "BadCounts"] : List Str).map V.str)) := by rw [← g6]; exact upd_same
  have b6 : H6 p5 = some (.lst (kindsL.map fun k => V.bl (c == k))) := by rw [← g6]; exact up_ne a5 e6
  have s6 : Sub H H6 := by rw [← g6]; exact s5.trans (sub_upd e6)
  refine ⟨.ref p6, rfl, by show (3 : Nat) ≤ sizeLine; omega, fun p7 e7 => ⟨p6, p7, _, _, rfl, rfl, up_ne a6 e7, upd_same, by show 8 + 3 ≤ sizeLine; omega, fun p8 e8 => ?_⟩⟩
  generalize g8 : upd (upd H6 p7 _) p8 _ = H8
  have a8 : H8 p8 = some (.lst (kindsL.map V.str)) := by rw [← g8]; exact upd_same
  have b8 : H8 p5 = some (.lst (kindsL.map fun k => V.bl (c == k))) := by rw [← g8]; exact up_ne (up_ne b6 e7) e8
  have s8 : Sub H H8 := by rw [← g8]; exact (s6.trans (sub_upd e7)).trans (sub_upd e8)
  have lm : ∀ (i : Nat) (x : V), (kindsL.map fun k => V.bl (c == k))[i]? = some x → ∃ k, kindsL[i]? = some k ∧ x = .bl (c == k) := fun i x h => by
    rw [List.getElem?_map] at h
    cases q : kindsL[i]? with
    | none => rw [q] at h; cases h
    | some k => rw [q] at h; exact ⟨k, rfl, (Option.some.inj h).symm⟩
  refine ⟨.ref p5, rfl, p5, (kindsL.map fun k => V.bl (c == k)), (kindsL.map fun k => if (c == k) = true then (1 : Int) else 0).map V.int, rfl, .inl (.inl b8), by simp, fun i x hx H2 => ?_, fun p9 e9 => ?_⟩
  · obtain ⟨k, hk, rfl⟩ := lm i x hx
    refine ⟨.bl (c == k), rfl, .inr ⟨c == k, rfl, rfl, ?_⟩⟩
    rw [List.getElem?_map, List.getElem?_map, hk]
    rfl
  · refine ⟨p9, _, rfl, .inl (.inl upd_same), rfl, ?_⟩
    rw [j4]
    refine ⟨false, rfl, ?_⟩
    show if false = true then _ else _
    rw [if_neg (by simp)]
    refine ⟨rfl, true, rfl, ?_⟩
    show if false = true then _ else _
    rw [if_neg (by simp)]
    generalize g9 : upd H8 p9 _ = H9
    have a9 : H9 p8 = some (.lst (kindsL.map V.str)) := by rw [← g9]; exact up_ne a8 e9
    have b9 : H9 p5 = some (.lst (kindsL.map fun k => V.bl (c == k))) := by rw [← g9]; exact up_ne b8 e9
    have s9 : Sub H H9 := by rw [← g9]; exact s8.trans (sub_upd e9)
    have jm : (kindsL.map fun k => V.bl (c == k))[j]? = some (.bl true) := by
      rw [List.getElem?_map, j3]
      simp
    refine ⟨.ref p8, rfl, .ref p5, rfl, ?_, p5, _, .bl true, j, .bl true, rfl, rfl, .inl (.inl b9), rfl, ?_, jm, by simp [eqV], fun m z hm hz => ?_, p8, _, (j : Nat), .str c, rfl, rfl, .inl (.inl a9), ?_, by show 2 ≤ sizeLine; omega, fun p10 e10 => hQ p10 _ (s9.trans (sub_upd e10)) ?_ upd_same⟩
    · exact .inl ⟨rfl, _, .inl (.inl b9)⟩
    · rw [List.all_eq_true]
      intro x hx
      obtain ⟨k, _, rfl⟩ := List.mem_map.mp hx
      rfl
    · obtain ⟨k, hk, rfl⟩ := lm m z hz
      have q := j2 m hm
      rw [List.getElem?_map, hk] at q
      have q2 : (c == k) = false := Option.some.inj q
      show ((c == k) == true) = false
      rw [q2]
      rfl
    · unfold atI ixN
      rw [if_pos (by omega), if_pos (by simp [kindsL]; omega)]
      show (kindsL.map V.str)[((j : Nat) : Int).toNat]? = _
      rw [Int.toNat_natCast, List.getElem?_map, j3]
      rfl
    · exact s9.free e10
end
end TD

set_option Elab.async false
set_option linter.all false
set_option maxRecDepth 100000
/-! TH4: the call that names a refusal, in the except suite. -/
namespace TD
open PySem PySem.Spec PyProof.Rows L2 HotX L2H
abbrev E0 : XK := fun _ _ _ => False
section
variable {X : Cx} {cl : Str → Value} {f a : Addr} {fd : FuncData} {oe : Obj} {c : Str} {pn : List (Addr × Obj)} {P : Nat → Pos} {cs scope : Scope} {params : Arguments}
/-- what is known of the def -/
structure TermD (K : PySem.W.Frag) (P : Nat → Pos) (cs scope : Scope) (params : Arguments) (f : Addr) (fd : FuncData) : Prop where
  fn : FunD K "_law_term" "_law_term" params (termBody P cs) scope [] [] f fd
  bs : Binds K fd ["e"] []
  sc : FnScope nTerm ["e"] scope
  gl : ∀ y ∈ (("isinstance" : Str) :: "sum" :: "ValueError" :: kindsL), scope.names.lookup y = some .globalImplicit
  lo : ∀ y ∈ (["e", "flags", "kinds"] : List Str), scope.names.lookup y = some .local
  blk : BlkOk nTerm scope cs [(".0", 3), ("flag", 4)]
  gi : ∀ (L : Addr) (cdv : Value) (C : Addr) (cl' : List (Str × Addr)), (compEnvC cs cl' C (envOfC "_law_term" scope L f cdv)).scope.names.lookup ("int" : Str) = some .globalImplicit
  vi : ∀ (L : Addr) (cdv : Value) (C : Addr) (cl' : List (Str × Addr)), (compEnvC cs cl' C (envOfC "_law_term" scope L f cdv)).scope.names.lookup ("flag" : Str) = some .local
  ln : ((P 100).endLine == (P 102).line) = true
theorem term_code {outer : List Env} {A : Around} {s : Shared} {H : Hp} {Q : VK} {D : Addr} {Pg : Program} {w : World} {K : PySem.W.Frag} {mg : Str → Option Value} {base : Heap} (T : TermD K P cs scope params f fd) (F : TermF K mg cl) (hc : c ∈ kindsL) (hD : cl c = .ref D) (hz : Zc (.ref D) none oe) (hot : Hot1 A (a, oe)) (hp : PinOk outer H s (a, oe)) (hr : RoomH 1 A) (e0 : Env0 Pg w K mg base A outer s H)
    (h : ∀ p H', Sub H H' → H p = none → H' p = some (.tup [.str "refused", .str c]) → Q (.ref p) H') : codeAny (model Pg w) A (.call (.ref f) ⟨[.ref a], []⟩) (CR CX0 outer Pg w H s Q E0) s := by
  obtain ⟨oc, od, dV, kV, doc, pm, an, cdv, ct, osl, e, lk, hcd, _, _⟩ := T.fn.ex
  subst e
  have KX : K.In s.heap := e0.mod.kin.keeps fun b o e => (e0.bs b o e).1
  have lim : s.heap.NoLimit := e0.mod.nolimit.keeps fun b o e => (e0.bs b o e).1
  have hkind : ∀ y ∈ (["e"] : List Str).zip [Value.ref a], scope.names.lookup y.1 = some .local ∨ (scope.names.lookup y.1 = some .cell ∧ ((cellsFrom (s.heap.objs.size + 1) scope.names []).lookup y.1).isSome = true) := fun ⟨n, v⟩ hy => by
    have q : n = ("e" : Str) := by simpa using (List.of_mem_zip hy).1
    subst q
    exact .inl (T.lo _ (by simp))
  have b := T.bs s [.ref a] KX rfl
  rw [List.append_nil] at b
  refine codeAny_call_function hr.depth (KX _ _ lk) rfl T.sc.co T.sc.gen rfl (PySem.W.codeRec_of KX hcd) (b _ _ _ _ ?_)
  refine wpAny_newFunctionEnv_cells T.sc.kind hkind fun env he s1 x => ?_
  subst he
  refine ⟨lim.keeps x.toInCall.keep, codeAny_func ?_⟩
  obtain ⟨hh, vs, e1, e2⟩ := id hot
  have X1 : TermX (cxH CX0 Pg w K mg base nTerm "_law_term" scope f cdv A outer s H E0 (a, oe)) cl a c :=
    ⟨F, rfl, fun y hy => T.gl y hy, fun y hy => T.lo y hy, hc, D, oe, hD, List.mem_cons_self, hz, vs, e1⟩
  have HC : HotC (cxH CX0 Pg w K mg base nTerm "_law_term" scope f cdv A outer s H E0 (a, oe)) := ⟨(a, oe), hot, List.mem_cons_self⟩
  obtain ⟨t, ht, hq⟩ := term_run (P := P) (cs := cs) X1 HC T.blk (fun s' H' C cl' fp => T.gi _ _ C cl') (fun C cl' => T.vi _ _ C cl') T.ln
  have I : Inv (cxH CX0 Pg w K mg base nTerm "_law_term" scope f cdv A outer s H E0 (a, oe)) [] (L2.start nTerm [.ref a]) H s1 := inv_startH (ps := ["e"]) (us := [.ref a]) T.sc hp e0 rfl (.cons rfl .nil) x
  refine wpAny_mono (ht.run [] s1 _ H _ I (hq Q H h)) (fun fl s' hs => ?_) fun e s' hs => hs
  cases fl with
  | ret u =>
    obtain ⟨v, σ', H', J, rv, q⟩ := hs
    exact ⟨v, H', J.os, J.bare, J.base, J.hok, rv, q⟩
  | next =>
    obtain ⟨σ', H', J, q⟩ := hs
    exact ⟨.non, H', J.os, J.bare, J.base, J.hok, rfl, q⟩
  | brk =>
    obtain ⟨_, _, _, q⟩ := hs
    exact False.elim q
  | cont =>
    obtain ⟨_, _, _, q⟩ := hs
    exact False.elim q
/-- _law_term(e) in the suite -/
theorem pe_term {i : Nat} {n : Str} {p1 p2 p3 : Pos} {D : Addr} (T : TermD X.K P cs scope params f fd) (F : TermF X.K X.mg cl) (hc : c ∈ kindsL) (hD : cl c = .ref D) (hz : L2N.Zn (.ref D) none oe) (hf : ∃ vs, oe.data = .fields vs) (hr : RoomH 1 X.A) (hg : Gl X "_law_term") (hm : X.mg "_law_term" = some (.ref f)) (hn : X.N[i]? = some n) (hv : Vis X.env.scope n)
    (hd : (n == ("__debug__" : Str)) = false) (hcd : (n == ("__classdict__" : Str)) = false) :
    PE (X.suite a ((a, oe) :: pn)) (.Call (.Name "_law_term" p1) [.Name n p2] [] p3) (fun σ H Q => σ[i]? = some (some (.ref a)) ∧ ∀ p H', Sub H H' → H p = none → H' p = some (.tup [.str "refused", .str c]) → Q (.ref p) H') := by
  refine ⟨fun pins s σ H Q I h => ?_⟩
  obtain ⟨h0, h⟩ := h
  have hg' : Gl (X.suite a ((a, oe) :: pn)) "_law_term" := hg
  refine wpAny_Call_Name_kw (ld_glob I hg' hm ?_ (by decide))
  have pa : PA (X.suite a ((a, oe) :: pn)) [.Name n p2] (tCons (tVar i) tNil) := pa_cons (pe_var (X := X.suite a ((a, oe) :: pn)) hn hv hd hcd) pa_nil
  refine PySem.W.callWith_K (h₀ := X.base) I.ok.mod.kin T.fn.kp (thn (pa.run p3 pins s σ H (fun vs H1 => vs = [.ref a] ∧ H1 = H) I ⟨_, h0, rfl, rfl⟩) fun us s1 ⟨vs, H1, I1, r, e1, e2⟩ => ⟨I1.kIn, ?_⟩) (by rfl) (by rfl)
  subst e1 e2
  have eu : us = [.ref a] := by
    cases r with
    | cons r rr => cases rr; cases r; rfl
  subst eu
  have P1 := I1.pin (a, oe) (List.mem_append_left _ List.mem_cons_self)
  have hpin : PinOk X.stack H1 s1 (a, oe) := ⟨P1.1, P1.2.1, fun hm => (List.mem_cons.mp (I1.stkSub a hm)).elim P1.2.2.1 P1.2.2.2.1, P1.2.2.2.2⟩
  obtain ⟨vs, hvs⟩ := hf
  have hot : Hot1 (X.A.mark (some (.ref a))) (a, oe) := ⟨rfl, vs, hvs, hz.2.2 vs hvs⟩
  have run := term_code (Q := Q) (outer := X.stack) (A := X.A.mark (some (.ref a))) (Pg := X.prog) (w := X.w) (mg := X.mg) (base := X.base) T F hc hD hz.zc hot hpin ⟨hr.dp, hr.un⟩ I1.env0 h
  refine wpAny_call (codeAny_mono run fun r s' hq => ?_)
  cases r with
  | error e => exact (show False from hq).elim
  | ok fl =>
    cases fl with
    | ret u => exact I1.after hq
    | next => exact False.elim hq
    | brk => exact False.elim hq
    | cont => exact False.elim hq
end
end TD

set_option Elab.async false
set_option linter.all false
set_option maxRecDepth 100000
/-! TH5: a lambda without parameters, handed to the def that tells how a deed ends. -/
namespace TD
open PySem PySem.Spec PyProof.Rows L2 HotX L2H LamX
section
variable {X : Cx} {pins : List (Addr × Obj)} {σ : L2.St} {H : Hp} {s : Shared}
/-- the lambda is made; what stood in the view's heap stands, but the table -/
theorem lam_make3 {T : List (Addr × Str)} {cd tbl : Addr} {params : Arguments} {body : Expr} {scope : Scope} {pos : Pos} {E : Value → Shared → Prop} {Q : Value → Shared → Prop} (I : Inv X pins σ H s) (TB : TabB X.base X.mg cd tbl) (hcode : X.env.code = .ref cd)
    (hm : (tbl, X.env.qual ++ "<lambda>") ∈ T) (hu : ∀ p ∈ T, p.1 = tbl → p.2 = X.env.qual ++ "<lambda>") (hT : Tabs T H) (hdef : defaultsOf params X.env = ([], [])) (hfree : ∀ y ∈ scope.names, y.2 = .free → ∃ c, X.env.cells.lookup y.1 = some c)
    (h : ∀ (f c' : Addr) (pm ctv : Value) (H1 : Hp) (s' : Shared), Inv X pins σ H1 s' → ExtN H H1 → (∀ b o, H b = some o → ∃ o', H1 b = some o') → Tabs T H1 →
      s'.heap.get? f = some (PySem.W.kla_obj "<lambda>" (X.env.qual ++ "<lambda>") params body scope (cloFrom X.env.cells scope.names []) pm c' ctv) → H1 f = none → f ∉ frs X.stack → H1 c' = some (CodeO c' (X.env.qual ++ "<lambda>")) → Q (.ref f) s') :
    wpAny (model X.prog X.w) X.A (eval (.Lambda params body scope pos) X.env) Q E s := by
  generalize hq : X.env.qual ++ "<lambda>" = lq at hm hu h
  obtain ⟨ps, hP, ht, ha⟩ := hT _ hm
  refine PySem.W.kla_eval hdef ?_
  have bP : s.heap.BuiltinsAt X.mg tbl := TB.bm.keeps I.bk
  have hP' : s.heap.get? tbl = some { cls := .none, data := .fields ps } := I.hok tbl _ hP
  have away : ∀ g, s.heap.objs.size ≤ g → g ∉ frs X.stack := fun g hg z => (List.mem_cons.mp (I.stkSub _ z)).elim
    (fun e => by have h1 := I.lt; rw [← e] at h1; exact absurd (Nat.lt_of_lt_of_le h1 hg) (Nat.lt_irrefl _)) (fun e => I.nofs hg e)
  rw [hq]
  cases hc : codeAmong pos ps.toList with
  | some cv =>
    obtain ⟨c', e, hco⟩ := ha pos cv hc
    subst e
    refine PySem.W.kla_makeFunctionHit (mg := X.mg) (c := cd) (P := tbl) (ps := ps) (closure_ok hfree) I.ok.glob (I.mod.glob.keeps I.bk) hcode (TB.code.keeps I.bk) hP' ht hc bP fun ctv h' tk hx hsz => ?_
    exact h h'.objs.size c' ((X.mg "__name__").getD .none) ctv H _ (I.kept fun b o e => Heap.get?_push_of_some _ (hx b o e)) (ExtN.refl H) (fun b o e => ⟨o, e⟩) hT (Heap.get?_push_size _ rfl) (I.hok.fresh hsz) (away _ hsz) hco
  | none =>
    refine PySem.W.kla_makeFunction (mg := X.mg) (c := cd) (P := tbl) (ps := ps) (closure_ok hfree) I.ok.glob (I.mod.glob.keeps I.bk) hcode (TB.code.keeps I.bk) hP' ht hc TB.gP bP fun c' ctv h' tk hx hge hlt hrec htb => ?_
    obtain ⟨c2, oc, vs, t, e2, hoc, hd, hv⟩ := hrec
    cases e2
    have hsz : s.heap.objs.size ≤ h'.objs.size := Nat.le_trans hge (Nat.le_of_lt hlt)
    have nC : H c' = none := I.hok.fresh hge
    have nPC : tbl ≠ c' := ne_of_none hP nC
    have J := inv_table (q := lq) (t' := tk) (more := #[rawInt pos.line, rawInt pos.col, .ref c']) (h' := h'.push (PySem.W.kla_obj "<lambda>" lq params body scope (cloFrom X.env.cells scope.names []) ((X.mg "__name__").getD .none) c' ctv)) I hP
      (fun b o hb e => Heap.get?_push_of_some _ (hx b o hb e)) (Heap.get?_push_of_some _ htb) hge ⟨oc, vs, t, Heap.get?_push_of_some _ hoc, hd, hv⟩
    have hE : ExtN H (upd (upd H tbl (.tbl (ps ++ #[rawInt pos.line, rawInt pos.col, .ref c']))) c' (CodeO c' lq)) := fun b o e n => by
      have hb : b ≠ tbl := fun z => n ps (Option.some.inj (e.symm.trans (by rw [z]; exact hP)))
      rw [upd_ne (ne_of_none e nC), upd_ne hb]
      exact e
    have eL : (ps ++ #[rawInt pos.line, rawInt pos.col, .ref c']).toList = ps.toList ++ [rawInt pos.line, rawInt pos.col, .ref c'] := by simp
    refine h h'.objs.size c' ((X.mg "__name__").getD .none) ctv _ _ J hE (fun b o e => ?_) (fun p hp => ?_) (Heap.get?_push_size _ rfl) ?_ (away _ hsz) upd_same
    · rw [upd_ne (ne_of_none e nC)]
      by_cases hb : b = tbl
      · rw [hb]; exact ⟨_, upd_same⟩
      · rw [upd_ne hb]; exact ⟨o, e⟩
    · by_cases hb : p.1 = tbl
      · rw [hu p hp hb, hb]
        refine ⟨_, by rw [upd_ne nPC, upd_same], by rw [eL]; exact PySem.TriplesOk_snoc _ _ _ _ ht, fun p' cv hcv => ?_⟩
        rw [eL] at hcv
        rcases among_app _ ht hcv with z | z
        · obtain ⟨c0, w1, w2⟩ := ha p' cv z
          exact ⟨c0, w1, hE _ _ w2 codeO_ne⟩
        · exact ⟨c', z, upd_same⟩
      · obtain ⟨ps', a1, a2, a3⟩ := hT p hp
        refine ⟨ps', by rw [upd_ne (ne_of_none a1 nC), upd_ne hb]; exact a1, a2, fun p' cv hcv => ?_⟩
        obtain ⟨c0, w1, w2⟩ := a3 p' cv hcv
        exact ⟨c0, w1, hE _ _ w2 codeO_ne⟩
    · have n1 : h'.objs.size ≠ c' := Nat.ne_of_gt hlt
      have n2 : h'.objs.size ≠ tbl := Nat.ne_of_gt (Nat.lt_of_lt_of_le (Heap.lt_size hP') hsz)
      rw [upd_ne n1, upd_ne n2]
      exact I.hok.fresh hsz
end
/-- the lambda's body's context, its exceptions of context None -/
def lamCxN (X : Cx) (A : Around) (outer : List Env) (s : Shared) (H : Hp) (E : XK) (scope : Scope) (f c' : Addr) : Cx :=
  (lamCx X A outer s H E scope f c').tr [] fun e s' => wpAny (model X.prog X.w) (A.deeper (lamEnv X scope s.heap.objs.size f c')) (leaving (lamEnv X scope s.heap.objs.size f c') e) (fun _ s'' => L2N.CX X.prog X.w outer H s E e s'') (fun e' s'' => L2N.CX X.prog X.w outer H s E e' s'') s'
section
variable {X : Cx} {pins : List (Addr × Obj)} {σ : L2.St} {H : Hp} {s : Shared}
/-- deed(), in the def that got the lambda -/
theorem pe_deed {CXg : CXT} {Eg : XK} {Ng : List Str} {qg : Str} {sg : Scope} {g f c' : Addr} {cdg pm ctv : Value} {params : Arguments} {body : Expr} {scope : Scope} {k i : Nat} {a : Str} {pn : List (Addr × Obj)} {xe : Value → Shared → Prop} {W : WX} {E : XK} {tb : TE} {p1 p2 : Pos}
    (I : Inv X pins σ H s) (L : LamS X.env.scope scope) (hf : s.heap.get? f = some (PySem.W.kla_obj "<lambda>" (X.env.qual ++ "<lambda>") params body scope (cloFrom X.env.cells scope.names []) pm c' ctv)) (hfn : H f = none) (hfr : f ∉ frs X.stack)
    (hbind : bindArgs (PySem.W.kla_fn "<lambda>" (X.env.qual ++ "<lambda>") params body scope (cloFrom X.env.cells scope.names []) pm (.ref c') ctv) ⟨[], []⟩ = pure [])
    (tk : L2N.Takes ((cxOf CXg X.prog X.w X.K X.mg X.base Ng qg sg g cdg X.A X.stack s H Eg).tr pn xe) W) (hW : ∀ cls d σ' H', E cls d H' → W cls d σ' H') (hr : Room (k + 1) (X.A.deeper (envOfC qg sg s.heap.objs.size g cdg)))
    (hbody : ∀ (A : Around) (outer : List Env) (s : Shared) (H : Hp), Room k (A.deeper (lamEnv X scope s.heap.objs.size f c')) → PE (lamCxN X A outer s H E scope f c') body tb)
    (hN : Ng[i]? = some a) (hv : Vis sg a) (hd : (a == ("__debug__" : Str)) = false := by decide) (hcd : (a == ("__classdict__" : Str)) = false := by decide) :
    PE ((cxOf CXg X.prog X.w X.K X.mg X.base Ng qg sg g cdg X.A X.stack s H Eg).tr pn xe) (.Call (.Name a p1) [] [] p2)
      (fun σZ HZ Q => σZ[i]? = some (some (.ref f)) ∧ HZ c' = some (CodeO c' (X.env.qual ++ "<lambda>")) ∧ tb σ HZ Q) := by
  refine ⟨fun pinsZ sZ σZ HZ Q IZ h => ?_⟩
  obtain ⟨hs, hc, ht⟩ := h
  refine wpAny_Call_Name_kw (thn ((pe_var (pos := p1) (i := i) hN hv hd hcd).run pinsZ sZ σZ HZ (fun v H1 => v = .ref f ∧ H1 = HZ) IZ ⟨.ref f, hs, rfl, rfl⟩) fun u s1 ⟨v, H1, I1, r1, ev, eH⟩ => ?_)
  subst ev eH
  obtain rfl : u = Value.ref f := r1
  have of1 := I1.base.keep f _ hf hfn hfr (fun z => nomatch (show f ∈ ([] : List Addr) from z))
  refine PySem.W.callWith_F0 ⟨_, _, _, _, of1⟩ ?_
  have un : Un (frs X.stack) [] H H1 s.heap s1.heap := I1.base
  obtain ⟨⟨oc, vs, t, hoc, hdc, hvc⟩, _, _⟩ := I1.hok c' _ hc
  have rc : codeAny (model X.prog X.w) (X.A.deeper (envOfC qg sg s.heap.objs.size g cdg)) (.call (.ref f) ⟨[], []⟩) (CR (L2N.CX X.prog X.w) (envOfC qg sg s.heap.objs.size g cdg :: X.stack) X.prog X.w H1 s1 Q E) s1 := by
    refine PySem.W.kla_callFunE hr.depth of1 rfl L.co L.gen rfl ⟨c', oc, vs, t, rfl, hoc, hdc, hvc⟩ ?_
    rw [hbind]
    refine wpAny_pure (wpAny_newFunctionEnv (fun y hy => (L.own y hy).2) (fun y hy => absurd hy (by simp)) (fun h₁ hns hsb => ⟨I1.nolimit.fresh _ hsb, ?_⟩) L.kind)
    show codeAny _ _ (.expr body (lamEnv X scope s1.heap.objs.size f c')) _ _
    have kp : ∀ b o, s1.heap.get? b = some o → h₁.get? b = some o := fun b o e => hsb.extBut b o (Nat.ne_of_lt (Heap.lt_size e)) (Heap.get?_push_of_some _ e)
    have J0 := lam_start2 (tk := s1.toks + ([] : List (Str × Value)).length) (E := E) (f := f) (c' := c') I L I1.env0 hr.hd un hns kp
    have J : Inv (lamCxN X (X.A.deeper (envOfC qg sg s.heap.objs.size g cdg)) (envOfC qg sg s.heap.objs.size g cdg :: X.stack) s1 H1 E scope f c') [] σ H1 { s1 with heap := h₁, toks := s1.toks + ([] : List (Str × Value)).length } := J0.toTry _
    refine PySem.W.kla_codeExpr (wpAny_mono ((hbody _ _ s1 H1 (hr.deeper _)).run [] _ _ H1 Q J ht) (fun v s' hq => ?_) fun e s' hq => hq)
    obtain ⟨w', H', J', rv, q⟩ := hq
    exact ⟨w', H', J'.os, J'.bare, J'.base, J'.hok, rv, q⟩
  have hx := L2N.passes_call (E := E) tk hW
  refine wpAny_call (codeAny_mono rc fun r s' hq => ?_)
  cases r with
  | error e => exact hx pinsZ σZ H1 s1 e s' I1 hq
  | ok fl =>
    cases fl with
    | ret u => exact I1.after hq
    | next => exact False.elim hq
    | brk => exact False.elim hq
    | cont => exact False.elim hq
end
end TD

set_option Elab.async false
set_option linter.all false
set_option maxRecDepth 100000
/-! TH6: how a deed ends, told. -/
namespace TD
open PySem PySem.Spec PyProof.Rows L2 HotX L2H LamX
def toldBody (P : Nat → Pos) : List Stmt := [.Try [.Return (some (.Call (.Name "deed" (P 0)) [] [] (P 1))) (P 2)] [.ExceptHandler (some (.Name "HallError" (P 3))) (some "e") [.Return (some (.Call (.Name "_law_term" (P 4)) [.Name "e" (P 5)] [] (P 6))) (P 7)] (P 8)] [] [] (P 9)]
def nTold : List Str := ["deed", "e"]
structure ToldD (K : PySem.W.Frag) (P : Nat → Pos) (st : Scope) (pt : Arguments) (g : Addr) (fdg : FuncData) : Prop where
  fn : FunD K "_law_told" "_law_told" pt (toldBody P) st [] [] g fdg
  bs : Binds K fdg ["deed"] []
  sc : FnScope nTold ["deed"] st
  l0 : st.names.lookup ("deed" : Str) = some .local
  l1 : st.names.lookup ("e" : Str) = some .local
  gh : st.names.lookup ("HallError" : Str) = some .globalImplicit
  gt : st.names.lookup ("_law_term" : Str) = some .globalImplicit
theorem takesN0 {X : Cx} : L2N.Takes X (fun _ _ _ _ => False) := fun _ _ x => by
  obtain ⟨_, _, _, _, _, _, _, _, _, _, _, _, _, _, _, _, z⟩ := x
  exact z.elim
/-- what is done with a refusal -/
def tE (cl : Str → Value) (Q : VK) : XK := fun cls d H' => ∃ c, c ∈ kindsL ∧ cls = cl c ∧ d = none ∧ ∀ p H'', Sub H' H'' → H' p = none → H'' p = some (.tup [.str "refused", .str c]) → Q (.ref p) H''
section
variable {X : Cx} {cl : Str → Value}
theorem pe_told {T : List (Addr × Str)} {g cd tbl ft CS : Addr} {k : Nat} {fdg fdt : FuncData} {Pt P : Nat → Pos} {st cs sc : Scope} {pt pr params : Arguments} {body : Expr} {scope : Scope} {t : XK → TE} {p lpos pos : Pos}
    (G : ToldD X.K Pt st pt g fdg) (Tm : TermD X.K P cs sc pr ft fdt) (F : TermF X.K X.mg cl) (hg : Gl X "_law_told") (hm : X.mg "_law_told" = some (.ref g)) (hmt : X.mg "_law_term" = some (.ref ft)) (hH : X.mg "HallError" = some (.ref CS)) (hex : ∀ c ∈ kindsL, PySem.W.exmOne X.K (cl c) (.ref CS) = some true)
    (TB : TabB X.base X.mg cd tbl) (hcode : X.env.code = .ref cd) (hmT : (tbl, X.env.qual ++ "<lambda>") ∈ T) (hu : ∀ p ∈ T, p.1 = tbl → p.2 = X.env.qual ++ "<lambda>") (hr : Room (k + 2) X.A) (L : LamS X.env.scope scope) (hdef : defaultsOf params X.env = ([], []))
    (hbind : ∀ (q : Str) (cl : List (Str × Addr)) (pm cv ctv : Value), bindArgs (PySem.W.kla_fn "<lambda>" q params body scope cl pm cv ctv) ⟨[], []⟩ = pure [])
    (hbody : ∀ (A : Around) (outer : List Env) (s : Shared) (H : Hp) (E : XK) (f c' : Addr), Room k (A.deeper (lamEnv X scope s.heap.objs.size f c')) → PE (lamCxN X A outer s H E scope f c') body (t E)) :
    PE X (.Call (.Name "_law_told" p) [.Lambda params body scope lpos] [] pos) (fun σ H Q => Tabs T H ∧ ∀ H1, ExtN H H1 → (∀ b o, H b = some o → ∃ o', H1 b = some o') → Tabs T H1 → t (tE cl Q) σ H1 Q) := by
  refine ⟨fun pins s σ H Q I h => ?_⟩
  obtain ⟨hT, h⟩ := h
  obtain ⟨oc, od, dV, kV, doc, pm, an, cdv, ct, osl, e, lk, hcd, _, _⟩ := G.fn.ex
  subst e
  refine wpAny_Call_Name_kw (ld_glob I hg hm ?_ (by decide))
  refine PySem.W.callWith_K (h₀ := X.base) I.ok.mod.kin G.fn.kp ?_ (by rfl) (by rfl)
  show wpAny _ _ (spliced ((false, eval (.Lambda params body scope lpos) X.env) :: backTo pos (starEach [] X.env))) _ _ s
  refine Calls.spliced_cons (lam_make3 I TB hcode hmT hu hT hdef (L.has I.ok) fun f c' pm' ctv H1 s' I1 eN eX T1 hf hfn hfr hco => ?_)
  refine Calls.spliced_nil ⟨I1.kIn, ?_⟩
  have hq := h H1 eN eX T1
  have rc : codeAny (model X.prog X.w) X.A (.call (.ref g) ⟨[.ref f], []⟩) (CR CX0 X.stack X.prog X.w H1 s' Q E0) s' := by
    refine run_ofS (N := nTold) (ps := ["deed"]) (us := [.ref f]) (vs := [.ref f]) lk hcd G.sc hr I1.env0 (G.bs s' [.ref f] I1.kIn rfl) (.cons rfl .nil) rfl fun hr' => ?_
    have gl : Gl (cxOf CX0 X.prog X.w X.K X.mg X.base nTold "_law_told" st g cdv X.A X.stack s' H1 E0).nox "HallError" := G.gh
    have nd : (nTold : List Str).Nodup := by decide +kernel
    have tr := L2N.ps_try_as (X := (cxOf CX0 X.prog X.w X.K X.mg X.base nTold "_law_told" st g cdv X.A X.stack s' H1 E0).nox) (x := "HallError") (n := "e") (c := .ref CS) (i := 1) (np := Pt 3) (pos := Pt 9) (pos' := Pt 8)
      (body := [.Return (some (.Call (.Name "deed" (Pt 0)) [] [] (Pt 1))) (Pt 2)]) (b₀ := .Return (some (.Call (.Name "_law_term" (Pt 4)) [.Name "e" (Pt 5)] [] (Pt 6))) (Pt 7)) (suite := [])
      (tb := fun W D σ' H' => ∃ E : XK, (∀ cls d σ2 H2, E cls d H2 → W cls d σ2 H2) ∧ σ'[0]? = some (some (.ref f)) ∧ H' c' = some (CodeO c' (X.env.qual ++ "<lambda>")) ∧ t E σ H' D.rt)
      (ts := fun a cls d D σ' H' => ∃ c, c ∈ kindsL ∧ cls = cl c ∧ d = none ∧ (1 < σ'.length → σ'[1]? = some (some (.ref a))) ∧ ∀ p H'', Sub H' H'' → H' p = none → H'' p = some (.tup [.str "refused", .str c]) → D.rt (.ref p) H'')
      rfl rfl nd rfl G.l1 ⟨gl, by decide, .inl hH⟩ takesN0 (fun W pn xe tk _ => ?_) (fun a oe cls d pn hz hf' => ?_)
    · refine ⟨_, (pss_one tr).nox, ?_⟩
      refine ⟨tE cl Q, fun cls d σ2 H2 z => ?_, rfl, hco, hq⟩
      obtain ⟨c, hc, e1, e2, e3⟩ := z
      refine ⟨true, by rw [e1]; exact hex c hc, fun _ a ha => ⟨c, hc, e1, e2, ?_, e3⟩, fun z => by cases z⟩
      exact fun hl => List.getElem?_set_self (by simpa using hl)
    · refine ⟨fun pins2 s2 σ2 H2 D I2 h2 => ?_⟩
      obtain ⟨E, hW, h0, h1, h3⟩ := h2
      have pd := pe_deed (CXg := CX0) (Eg := E0) (Ng := nTold) (qg := "_law_told") (sg := st) (g := g) (cdg := cdv) (i := 0) (a := "deed") (p1 := Pt 0) (p2 := Pt 1) (pn := pn) (xe := xe) (W := W) (E := E) I1 L hf hfn hfr (hbind _ _ _ _ _) tk hW hr' (fun A outer s H hr2 => hbody A outer s H E f c' hr2) rfl (.inl G.l0)
      exact (pss_one (ps_ret (pos := Pt 2) pd)).run pins2 s2 σ2 H2 D I2 ⟨h0, h1, h3⟩
    · refine ⟨fun pins2 s2 σ2 H2 D I2 h2 => ?_⟩
      obtain ⟨c, hc, rfl, rfl, h0, h1⟩ := h2
      obtain ⟨D0, e1, _⟩ := F.cls c hc
      rw [e1] at hz
      have pt := pe_term (X := (cxOf CX0 X.prog X.w X.K X.mg X.base nTold "_law_told" st g cdv X.A X.stack s' H1 E0).nox) (a := a) (oe := oe) (pn := pn) (c := c) (i := 1) (n := "e") (p1 := Pt 4) (p2 := Pt 5) (p3 := Pt 6) (D := D0) Tm F hc e1 hz hf' (roomH_of (hr'.mono (by omega))) G.gt hmt rfl (.inl G.l1) (by decide) (by decide)
      exact (pss_one (ps_ret (pos := Pt 7) pt)).run pins2 s2 σ2 H2 D I2 ⟨h0 (by have := I2.len; show 1 < σ2.length; rw [this]; show 1 < (nTold : List Str).length; decide), h1⟩
  refine wpAny_call (codeAny_mono rc fun r s2 hq => ?_)
  cases r with
  | error e => exact (show False from hq).elim
  | ok fl =>
    cases fl with
    | ret u => exact I1.after hq
    | next => exact False.elim hq
    | brk => exact False.elim hq
    | cont => exact False.elim hq
end
end TD

set_option Elab.async false
set_option linter.all false
set_option maxRecDepth 100000
/-! TD3: what the evaluator leans on is so; slots read and written. -/
namespace TD
open PySem PySem.Spec PyProof.Rows L2

/-! ### primitives, by values -/
def rN (K : PySem.W.Frag) (f : List D → Option D) : List V → Hp → VK → Prop := fun xs H Q => ∃ G as d, View G H ∧ RpAll K G xs as ∧ f as = some d ∧ ∀ v G' H', Grow G H G' H' → Rp K G' v d → Q v H'
def r2 (K : PySem.W.Frag) (f : D → D → Option D) : R2 := fun x y H Q => ∃ G a b d, View G H ∧ Rp K G x a ∧ Rp K G y b ∧ f a b = some d ∧ ∀ v G' H', Grow G H G' H' → Rp K G' v d → Q v H'
def r1 (K : PySem.W.Frag) (f : D → Option D) : V → Hp → VK → Prop := fun x H Q => ∃ G a d, View G H ∧ Rp K G x a ∧ f a = some d ∧ ∀ v G' H', Grow G H G' H' → Rp K G' v d → Q v H'
def rM (K : PySem.W.Frag) (f : D → List D → Option D) : V → List V → Hp → VK → Prop := fun x xs H Q => ∃ G a as d, View G H ∧ Rp K G x a ∧ RpAll K G xs as ∧ f a as = some d ∧ ∀ v G' H', Grow G H G' H' → Rp K G' v d → Q v H'
/-- the built-in type that data is of -/
def tyD : D → String
  | .list _ => "list"
  | .str _ => "str"
  | _ => ""
/-- xs.remove(text) of a list of texts -/
def rRemS : V → List V → Hp → VK → Prop := fun x xs H Q => ∃ (l : Addr) (zs : List Str) (z : Str) (j : Nat), x = .ref l ∧ xs = [.str z] ∧ H l = some (.lst (zs.map V.str)) ∧ zs[j]? = some z ∧ (∀ m : Nat, m < j → zs[m]? ≠ some z) ∧ Q .non (upd H l (.lst ((zs.eraseIdx j).map V.str)))

/-- the fixed part of a context -/
structure Fx where
  P : Program
  w : World
  K : PySem.W.Frag
  mg : Str → Option Value
  base : Heap
structure On (x : Fx) (k : Nat) (X : Cx) : Prop where
  P : X.prog = x.P
  w : X.w = x.w
  K : X.K = x.K
  mg : X.mg = x.mg
  base : X.base = x.base
  calm : X.calm = true
  room : Room k X.A

def Bof (vs : List V) (i : Nat) : Option Addr := match vs[i]? with
  | some (.ref a) => some a
  | _ => none
/-- a def's promise by the evaluator -/
def SpOf (K : PySem.W.Frag) (T : List (Addr × Str)) (cl : Str → Value) (n : Nat) (f : En → Res D) : Sp := fun vs H Q E => ∃ F G as, as.length = n ∧ Rl ⟨K, T, Bof vs, F, cl⟩ G H (vs.map some) as ∧ (match f as with
  | .ok d o => ∀ v G' H', Rl ⟨K, T, Bof vs, F, cl⟩ G' H' (vs.map some) o → Sub G G' → Rp K G' v d → Q v H'
  | .exc c o => ∀ G' H', Rl ⟨K, T, Bof vs, F, cl⟩ G' H' (vs.map some) o → Sub G G' → E (cl c) none H'
  | .bad => False)

structure ExcC (K : PySem.W.Frag) (mg : Str → Option Value) (cl : Str → Value) (c : Str) : Prop where
  ex : ∃ C : Addr, cl c = .ref C ∧ mg c = some (.ref C) ∧ PySem.W.excIn K C He.veBase "ValueError.__new__" = true ∧ PySem.W.keepIn K (.ref C) = true ∧
    PySem.W.subIn K (.ref C) (.type "BaseException") = some true ∧ PySem.W.typeIn K (.ref C) = some (.type "type")
  db : (c == ("__debug__" : Str)) = false

/-- enumerate of a tuple: what its turns give -/
def ItTe (K : PySem.W.Frag) (a : Addr) : It :=
  ⟨fun i H => ∃ (xs : List V) (x : V), SqT K H a xs ∧ xs[i]? = some x, fun i H v H' => ∃ T x, v = .ref T ∧ H T = none ∧ H' = upd H T (.tup [.int (i : Nat), x]) ∧ ∀ xs, SqT K H a xs → xs[i]? = some x, fun i H => ∃ xs : List V, SqT K H a xs ∧ xs.length ≤ i⟩
def iEnumT (K : PySem.W.Frag) (ta : TA) : TI := fun σ H R => ta σ H fun vs H1 => ∃ a xs, vs = [.ref a] ∧ SqT K H1 a xs ∧ R (ItTe K a) H1

/-- the defs that tell how a deed ends -/
def ToldF (x : Fx) (cl : Str → Value) : Prop := ∃ (g ft CS : Addr) (fdg fdt : FuncData) (Pt P : Nat → Pos) (st cs sc : Scope) (pt pr : Arguments), ToldD x.K Pt st pt g fdg ∧ TermD x.K P cs sc pr ft fdt ∧ TermF x.K x.mg cl ∧
  x.mg "_law_told" = some (.ref g) ∧ x.mg "_law_term" = some (.ref ft) ∧ x.mg "HallError" = some (.ref CS) ∧ ∀ c ∈ kindsL, PySem.W.exmOne x.K (cl c) (.ref CS) = some true
/-- the code object of a def that makes lambdas, and its table -/
def LamC (x : Fx) (T : List (Addr × Str)) (code : Value) (qual : Str) : Prop := ∃ cd tbl, code = .ref cd ∧ LamX.TabB x.base x.mg cd tbl ∧ (tbl, qual ++ "<lambda>") ∈ T ∧ ∀ p ∈ T, p.1 = tbl → p.2 = qual ++ "<lambda>"
structure PrX (C : Cst) (x : Fx) (K : PySem.W.Frag) (T : List (Addr × Str)) (cl : Str → Value) (k : Nat) (X : Cx) : Prop where
  op : ∀ o, OpR X (binaryOp o) (r2 K (C.op o))
  cmp : ∀ o, OpR X (compareOp o) (r2 K fun a b => (C.cmp o a b).map .bool)
  isi : ∀ T' d b, C.isi T' d = some b → ∃ tn : String, bootBuiltins T' = some (.type tn) ∧ x.mg T' = none ∧ T' ≠ "__name__" ∧ (T' == ("__debug__" : Str)) = false ∧
    CallR X (.builtin "isinstance") (fun xs H Q => ∃ v G d b, xs = [v, .ty tn] ∧ View G H ∧ Rp K G v d ∧ C.isi T' d = some b ∧ Q (.bl b) H)
  bf : ∀ f ds d, C.bf f ds = some d → ds ≠ [] ∧ x.mg f = none ∧ f ≠ "__name__" ∧ (f == ("__debug__" : Str)) = false ∧
    ((∃ id, bootBuiltins f = some (.builtin id) ∧ CallR X (.builtin id) (rN K (C.bf f))) ∨ (∃ T', bootBuiltins f = some (.type T') ∧ CallR X (.type T') (rN K (C.bf f))))
  free : ∀ f ∈ (["range", "enumerate", "zip", "isinstance", "len", "list"] : List Str), x.mg f = none
  mt : ∀ m a as d, C.mt m a as = some d → tyD a ≠ "" ∧ as ≠ [] ∧ as.length < 25 ∧ ∃ id, PlainAttrs (tyD a) ∧ Slot (tyD a) m id ∧ typeOf (.builtin id) = pure (.type "method_descriptor") ∧
    MtR X id (rM K fun a' as' => if tyD a' = tyD a then C.mt m a' as' else none)
  ix : IxR X (r2 K C.ix)
  sl : SlR X (fun v lo hi H Q => r1 K (fun a => C.sl a lo hi) v H Q)
  rv : ∀ {e : Expr} {te : TE} {j : Nat} {p1 p2 p3 pos : Pos}, PE X e te → PE X (.Subscript e (.Slice none none (some (.UnaryOp .USub (.Constant (.int 1) j p1) p2)) p3) pos) (fun σ H Q => te σ H fun v H1 => r1 K C.rv v H1 Q)
  rem : MtR X "list.remove" rRemS
  enumT : ∀ {e : Expr} {ta : TA} {p pos tpos : Pos} {elts : List Expr} {kk : Nat}, Gl X "enumerate" → PA X [e] ta → starEach [e] X.env = [(false, eval e X.env)] → PI X (.Tuple elts kk tpos) (.Call (.Name "enumerate" p) [e] [] pos) (iEnumT K ta)
  glob : ∀ y d, C.glob y = some d → ∃ u v, x.mg y = some u ∧ RelV v u ∧ ∀ G, Rp K G v d
  call : ∀ f dice n, C.arity f = some (dice, n) → n ≠ 0 ∧ ∃ a fd ps, x.mg f = some (.ref a) ∧ PySem.W.keepIn x.K (.ref a) = true ∧ Binds x.K fd ps [] ∧ ps.length = n ∧
    FnOk x.P x.w x.K x.mg x.base (L2N.CX x.P x.w) k a fd ps (SpOf K T cl n (C.call f))
  excs : ∀ c, C.excs c = true → ExcC x.K x.mg cl c
  told : ∀ y, C.told y = true → y = "_law_told" ∧ ToldF x cl ∧ (∀ c d, C.trm c = some d → c ∈ kindsL ∧ d = .tuple [.str "refused", .str c]) ∧ ((∀ S e, C.lam S e = bad) ∨ ∃ k', k = k' + 2 ∧ ∀ (g : Gh) (W : WX) (S : Sc) (Y : Cx), On x k' Y → g.K = x.K → g.T = T → g.cl = cl →
    Y.N = C.N → C.N.Nodup → Y.env.scope = S.vis → (∀ y, locB S.asg y = false) → L2N.Takes Y W → ∀ e, PE Y e (rdE g W (C.lam S e)))

structure XOk (C : Cst) (x : Fx) (g : Gh) (W : WX) (k : Nat) (S : Sc) (X : Cx) : Prop where
  on : On x k X
  gK : g.K = x.K
  pr : ∀ Y, On x k Y → PrX C x g.K g.T g.cl k Y
  N : X.N = C.N
  nd : C.N.Nodup
  sc : X.env.scope = S.vis
  fn : ∀ y, locB S.asg y = true → X.fn y = true ∨ S.vis.names.lookup y = some .local
  tk : L2N.Takes X W
  lm : (∃ y, C.told y = true) → LamC x g.T X.env.code X.env.qual

/-! ### slots -/
theorem slotIn_get : ∀ {l : List Str} {x : Str} {i : Nat}, slotIn l x = some i → l[i]? = some x
  | [], _, _, h => by cases h
  | y :: r, x, i, h => by
    unfold slotIn at h
    split at h
    · rename_i e
      cases h
      simp [beq_iff_eq.mp e]
    · cases q : slotIn r x with
      | none => rw [q] at h; cases h
      | some j =>
        rw [q] at h
        have e : j + 1 = i := Option.some.inj h
        subst e
        simpa using slotIn_get q
theorem visB_vis {sc : Scope} {x : Str} (h : visB sc x = true) : Vis sc x := by
  unfold visB at h
  unfold Vis
  split at h <;> simp_all
theorem locB_loc {sc : Scope} {x : Str} (h : locB sc x = true) : L2.Loc sc x := by
  unfold locB at h
  unfold L2.Loc
  split at h <;> simp_all
theorem gloB_glo {sc : Scope} {x : Str} (h : gloB sc x = true) : sc.names.lookup x = some .globalImplicit := by
  unfold gloB at h
  split at h <;> simp_all
theorem plainN_db {x : Str} (h : plainN x = true) : (x == ("__debug__" : Str)) = false ∧ (x == ("__classdict__" : Str)) = false ∧ x ≠ "__name__" := by
  unfold plainN at h
  simp only [Bool.and_eq_true, Bool.not_eq_true'] at h
  refine ⟨h.1.1, h.1.2, fun e => ?_⟩
  have := h.2
  rw [e] at this
  simp at this

section
variable {g : Gh} {G H : Hp} {σ : L2.St} {env : En}
theorem get_set_ne {l : En} {i j : Nat} {s : Sl} (h : i ≠ j) : (l.set i s)[j]? = l[j]? := List.getElem?_set_ne h
theorem get_set_eq {l : En} {i : Nat} {s s' : Sl} (h : l[i]? = some s') : (l.set i s)[i]? = some s := by
  obtain ⟨h1, _⟩ := List.getElem?_eq_some_iff.mp h
  exact List.getElem?_set_self h1
/-- a list of ours becomes a value -/
theorem Rl.freeze {i : Nat} {ds : List D} (R : Rl g G H σ env) (h : env[i]? = some (.own ds)) : ∃ a vs, σ[i]? = some (some (.ref a)) ∧ Rl g (upd G a (.lst vs)) H σ (env.set i (.val (.list ds))) ∧ Sub G (upd G a (.lst vs)) ∧
    Rp g.K (upd G a (.lst vs)) (.ref a) (.list ds) := by
  obtain ⟨a, vs, h1, h2, h3, h4, h5, h6⟩ := R.sl i _ h
  have sub : Sub G (upd G a (.lst vs)) := sub_upd h3
  have rp : Rp g.K (upd G a (.lst vs)) (.ref a) (.list ds) := .lst upd_same (h6.mono sub)
  have ata : At env σ i a := ⟨by rw [lent_iff.mpr (.inl h)]; rfl, h1⟩
  have lt : ∀ j b, At (env.set i (.val (.list ds))) σ j b → j ≠ i ∧ At env σ j b := fun j b q => by
    have ne : j ≠ i := fun e => by
      have q1 := q.1
      rw [e] at q1
      unfold TD.lent at q1
      rw [get_set_eq h] at q1
      cases q1
    refine ⟨ne, ?_, q.2⟩
    have q1 := q.1
    unfold TD.lent at q1 ⊢
    rwa [get_set_ne ne.symm] at q1
  refine ⟨a, vs, h1, ⟨by rw [List.length_set]; exact R.len, ⟨fun b o e => ?_, fun b o e => ?_⟩, R.frame, fun b o e => ?_, R.tabs, fun j s e => ?_, fun j l b p q => R.apart j l b (lt j b p).2 (lt l b q).2⟩, sub, rp⟩
  · by_cases hb : b = a
    · rw [hb, upd_same] at e; cases e; rw [hb]; exact h2
    · rw [upd_ne hb] at e; exact R.view.sub _ _ e
  · by_cases hb : b = a
    · rw [hb, upd_same] at e; cases e; exact h5
    · rw [upd_ne hb] at e; exact R.view.vw _ _ e
  · obtain ⟨p, q⟩ := R.fdom b o e
    refine ⟨p, ?_⟩
    rw [upd_ne (fun z => by rw [z, h4] at e; cases e)]
    exact q
  · by_cases hj : j = i
    · subst hj
      rw [get_set_eq h] at e
      cases e
      exact ⟨_, h1, rp⟩
    · rw [get_set_ne (Ne.symm hj)] at e
      have q := R.sl j s e
      cases s with
      | non => trivial
      | val d => obtain ⟨v, q1, q2⟩ := q; exact ⟨v, q1, q2.mono sub⟩
      | own es =>
        obtain ⟨b, us, q1, q2, q3, q4, q5, q6⟩ := q
        have ne : b ≠ a := fun z => hj (R.apart j i a ⟨by rw [lent_iff.mpr (.inl e)]; rfl, by rw [← z]; exact q1⟩ ata)
        exact ⟨b, us, q1, q2, by rw [upd_ne ne]; exact q3, q4, q5, q6.mono sub⟩
      | par es =>
        obtain ⟨b, us, q1, q2, q3, q4, q5, q6, q7⟩ := q
        have ne : b ≠ a := fun z => hj (R.apart j i a ⟨by rw [lent_iff.mpr (.inr e)]; rfl, by rw [← z]; exact q1⟩ ata)
        exact ⟨b, us, q1, q2, by rw [upd_ne ne]; exact q3, q4, q5, q6.mono sub, q7⟩
theorem At.putL {i j : Nat} {ds : List D} {b : Addr} (h : At (putL i ds env) σ j b) : At env σ j b := by
  refine ⟨?_, h.2⟩
  have h1 := h.1
  unfold TD.putL at h1
  split at h1
  · rename_i q
    by_cases e : j = i
    · subst e
      rw [lent_iff.mpr (.inl q)]
      rfl
    · unfold TD.lent at h1 ⊢
      rwa [get_set_ne (Ne.symm e)] at h1
  · rename_i q
    by_cases e : j = i
    · subst e
      rw [lent_iff.mpr (.inr q)]
      rfl
    · unfold TD.lent at h1 ⊢
      rwa [get_set_ne (Ne.symm e)] at h1
  · exact h1
/-- a list of ours is changed -/
theorem Rl.write {i : Nat} {ds ds' : List D} {a : Addr} {vs' : List V} (R : Rl g G H σ env) (h : TD.lent i env = some ds) (ha : σ[i]? = some (some (.ref a))) (hl : vs'.length ≤ sizeLine) (hr : RpAll g.K G vs' ds') : Rl g G (upd H a (.lst vs')) σ (TD.putL i ds' env) := by
  obtain ⟨a', vs, h1, h2, h3, h4, h5, h6, h7⟩ := R.lent h
  have e0 : a' = a := by rw [ha] at h1; cases h1; rfl
  subst e0
  have lenE : (TD.putL i ds' env).length = env.length := by
    unfold TD.putL
    split <;> simp
  refine ⟨lenE.trans R.len, ⟨fun b o e => ?_, R.view.vw⟩, fun b o e n => ?_, fun b o e => ?_, fun p hp => ?_, fun j s e => ?_, fun j l b p q => R.apart j l b p.putL q.putL⟩
  · have hb : b ≠ a' := fun z => by rw [z, h3] at e; cases e
    rw [upd_ne hb]
    exact R.view.sub _ _ e
  · have hb : b ≠ a' := fun z => by rw [z, h4] at e; cases e
    rw [upd_ne hb]
    exact R.frame b o e n
  · have hb : b ≠ a' := fun z => by rw [z, h4] at e; cases e
    rw [upd_ne hb]
    exact R.fdom b o e
  · obtain ⟨ps, t1, t2, t3⟩ := R.tabs p hp
    have hb : p.1 ≠ a' := fun z => by rw [z, h2] at t1; cases t1
    refine ⟨ps, by rw [upd_ne hb]; exact t1, t2, fun pos cv hc => ?_⟩
    obtain ⟨c, c1, c2⟩ := t3 pos cv hc
    have hb2 : c ≠ a' := fun z => by rw [z, h2] at c2; cases c2
    exact ⟨c, c1, by rw [upd_ne hb2]; exact c2⟩
  · have other : j ≠ i → env[j]? = some s → SlOk g G (upd H a' (.lst vs')) σ j s := fun hj e => by
      have q := R.sl j s e
      cases s with
      | non => trivial
      | val d => exact q
      | own es =>
        obtain ⟨b, us, q1, q2, q3, q4, q5, q6⟩ := q
        have ne : b ≠ a' := fun z => hj (R.apart j i a' ⟨by rw [lent_iff.mpr (.inl e)]; rfl, by rw [← z]; exact q1⟩ h7)
        exact ⟨b, us, q1, by rw [upd_ne ne]; exact q2, q3, q4, q5, q6⟩
      | par es =>
        obtain ⟨b, us, q1, q2, q3, q4, q5, q6, q7⟩ := q
        have ne : b ≠ a' := fun z => hj (R.apart j i a' ⟨by rw [lent_iff.mpr (.inr e)]; rfl, by rw [← z]; exact q1⟩ h7)
        exact ⟨b, us, q1, by rw [upd_ne ne]; exact q2, q3, q4, q5, q6, q7⟩
    rcases lent_iff.mp h with q | q
    · have e1 : TD.putL i ds' env = env.set i (.own ds') := by unfold TD.putL; rw [q]
      rw [e1] at e
      by_cases hj : j = i
      · subst hj
        rw [get_set_eq q] at e
        cases e
        exact ⟨a', vs', h1, upd_same, h3, h4, hl, hr⟩
      · rw [get_set_ne (Ne.symm hj)] at e
        exact other hj e
    · have e1 : TD.putL i ds' env = env.set i (.par ds') := by unfold TD.putL; rw [q]
      rw [e1] at e
      by_cases hj : j = i
      · subst hj
        rw [get_set_eq q] at e
        cases e
        obtain ⟨b, us, q1, q2, q3, q4, q5, q6, q7⟩ := R.sl j _ q
        have eb : b = a' := by rw [h1] at q1; cases q1; rfl
        rw [eb] at q7
        exact ⟨a', vs', h1, upd_same, h3, h4, hl, hr, q7⟩
      · rw [get_set_ne (Ne.symm hj)] at e
        exact other hj e
/-- a slot is stored -/
theorem Rl.store {i : Nat} {s s' : Sl} {v : V} (R : Rl g G H σ env) (h : env[i]? = some s') (ok : SlOk g G H (σ.set i (some v)) i s) (ap : ∀ j a, TD.lent i (env.set i s) ≠ none → v = .ref a → j ≠ i → ¬ At env σ j a) : Rl g G H (σ.set i (some v)) (env.set i s) := by
  have other : ∀ j, j ≠ i → (σ.set i (some v))[j]? = σ[j]? := fun j hj => List.getElem?_set_ne (Ne.symm hj)
  have hlt : i < σ.length := by
    obtain ⟨h1, _⟩ := List.getElem?_eq_some_iff.mp h
    rw [← R.len]
    exact h1
  have atS : ∀ j a, j ≠ i → At (env.set i s) (σ.set i (some v)) j a → At env σ j a := fun j a hj q => by
    refine ⟨?_, by rw [← other j hj]; exact q.2⟩
    have q1 := q.1
    unfold TD.lent at q1 ⊢
    rwa [get_set_ne (Ne.symm hj)] at q1
  have atI : ∀ a, At (env.set i s) (σ.set i (some v)) i a → TD.lent i (env.set i s) ≠ none ∧ v = .ref a := fun a q => by
    refine ⟨fun z => (by have q1 := q.1; rw [z] at q1; cases q1), ?_⟩
    have q2 := q.2
    rw [List.getElem?_set_self hlt] at q2
    exact Option.some.inj (Option.some.inj q2)
  refine ⟨by rw [List.length_set, List.length_set]; exact R.len, R.view, R.frame, R.fdom, R.tabs, fun j t e => ?_, fun j l a p q => ?_⟩
  · by_cases hj : j = i
    · subst hj
      rw [get_set_eq h] at e
      cases e
      exact ok
    · rw [get_set_ne (Ne.symm hj)] at e
      have q := R.sl j t e
      cases t with
      | non => trivial
      | val d => obtain ⟨u, q1, q2⟩ := q; exact ⟨u, by rw [other j hj]; exact q1, q2⟩
      | own es => obtain ⟨b, us, q1, q2⟩ := q; exact ⟨b, us, by rw [other j hj]; exact q1, q2⟩
      | par es => obtain ⟨b, us, q1, q2⟩ := q; exact ⟨b, us, by rw [other j hj]; exact q1, q2⟩
  · by_cases hj : j = i
    · by_cases hl : l = i
      · rw [hj, hl]
      · subst hj
        obtain ⟨p1, p2⟩ := atI a p
        exact (ap l a p1 p2 hl (atS l a hl q)).elim
    · by_cases hl : l = i
      · subst hl
        obtain ⟨p1, p2⟩ := atI a q
        exact (ap j a p1 p2 hj (atS j a hj p)).elim
      · exact R.apart j l a (atS j a hj p) (atS l a hl q)
/-- a value is stored -/
theorem Rl.storeV {i : Nat} {s' : Sl} {v : V} {d : D} (R : Rl g G H σ env) (h : env[i]? = some s') (rp : Rp g.K G v d) : Rl g G H (σ.set i (some v)) (env.set i (.val d)) := by
  have hlt : i < σ.length := by
    obtain ⟨h1, _⟩ := List.getElem?_eq_some_iff.mp h
    rw [← R.len]
    exact h1
  refine R.store h ⟨v, List.getElem?_set_self hlt, rp⟩ fun j a n => ?_
  exfalso
  apply n
  unfold TD.lent
  rw [get_set_eq h]
/-- a new list of ours is stored -/
theorem Rl.storeO {i : Nat} {s' : Sl} {a : Addr} {vs : List V} {ds : List D} (R : Rl g G H σ env) (h : env[i]? = some s') (ha : H a = some (.lst vs)) (hG : G a = none) (hF : g.F a = none) (hl : vs.length ≤ sizeLine) (hn : ∀ j, ¬ At env σ j a) (rp : RpAll g.K G vs ds) :
    Rl g G H (σ.set i (some (.ref a))) (env.set i (.own ds)) := by
  have hlt : i < σ.length := by
    obtain ⟨h1, _⟩ := List.getElem?_eq_some_iff.mp h
    rw [← R.len]
    exact h1
  refine R.store h ⟨a, vs, List.getElem?_set_self hlt, ha, hG, hF, hl, rp⟩ fun j b _ e _ q => ?_
  cases e
  exact hn j q
end
end TD

set_option Elab.async false
set_option linter.all false
set_option maxRecDepth 100000
/-! TD4: expressions. -/
namespace TD
open PySem PySem.Spec PyProof.Rows L2

section
variable {C : Cst} {x : Fx} {g : Gh} {W : WX} {k : Nat} {S : Sc} {X : Cx}
theorem XOk.K (o : XOk C x g W k S X) : X.K = g.K := o.on.K.trans o.gK.symm
theorem XOk.prX (o : XOk C x g W k S X) : PrX C x g.K g.T g.cl k X := o.pr X o.on

/-! ### the evaluator stops: nothing to show -/
theorem rd_bad {σ : L2.St} {H : Hp} {Q : VK} (h : rdE g W bad σ H Q) : False := by obtain ⟨_, _, _, q⟩ := h; exact q
theorem pe_bad {e : Expr} : PE X e (rdE g W bad) := pe_false fun _ _ _ h => rd_bad h
theorem pt_bad {e : Expr} : PT X e (rdT g W bad) := pt_false fun _ _ _ h => by obtain ⟨_, _, _, q⟩ := h; exact q

/-! ### names, constants -/
theorem XOk.var {y : Str} {i : Nat} {pos : Pos} (o : XOk C x g W k S X) (hi : slot C y = some i) (hv : visB S.vis y = true) (hp : plainN y = true) : PE X (.Name y pos) (tVar i) := by
  obtain ⟨d1, d2, _⟩ := plainN_db hp
  exact pe_var (by rw [o.N]; exact slotIn_get hi) (by rw [o.sc]; exact visB_vis hv) d1 d2
theorem XOk.gl {y : Str} (o : XOk C x g W k S X) (h : gloB S.vis y = true) : Gl X y := by
  show X.env.scope.names.lookup y = some .globalImplicit
  rw [o.sc]
  exact gloB_glo h
theorem pe_rdName {y : Str} {pos : Pos} (o : XOk C x g W k S X) : PE X (.Name y pos) (rdE g W (rdName C S y)) := by
  unfold rdName
  split
  · rename_i i hi
    split
    · rename_i hv
      rw [Bool.and_eq_true] at hv
      refine PE.of (o.var hi hv.1 hv.2) fun σ H Q ⟨G, env, R, go⟩ => ?_
      unfold rdSlot at go
      split at go
      · rename_i d e
        obtain ⟨v, h1, h2⟩ := R.sl i _ e
        exact ⟨v, h1, go G H R (Same.refl _) v h2⟩
      · rename_i ds e
        obtain ⟨a, vs, h1, R', s, rp⟩ := R.freeze e
        exact ⟨.ref a, h1, go _ H R' s _ rp⟩
      · exact go.elim
    · exact pe_bad
  · split
    · rename_i d hd
      split
      · rename_i hv
        rw [Bool.and_eq_true] at hv
        obtain ⟨u, v, h1, h2, h3⟩ := o.prX.glob y d hd
        obtain ⟨d1, d2, _⟩ := plainN_db hv.2
        refine PE.of (pe_glob (o.gl hv.1) (by rw [o.on.mg]; exact h1) h2 d1) fun σ H Q ⟨G, env, R, go⟩ => ?_
        exact go G H R (Same.refl _) v (h3 G)
      · exact pe_bad
    · exact pe_bad
theorem pe_const {d : D} {v : V} {e : Expr} (h : PE X e (tC v)) (r : ∀ G, Rp g.K G v d) : PE X e (rdE g W (ret d)) :=
  PE.of h fun σ H Q ⟨G, env, R, go⟩ => go G H R (Same.refl _) v (r G)

/-! ### operators -/
variable {a b c : Expr} {ma mb mc : M D} {pos : Pos}
/-- two parts, then a primitive -/
theorem rd_two {f : D → D → Option D} {σ : L2.St} {H : Hp} {Q : VK} (h : rdE g W (bnd ma fun p => bnd mb fun q => opt (f p q)) σ H Q) : tOp (r2 g.K f) (rdE g W ma) (rdE g W mb) σ H Q := by
  obtain ⟨G, env, R, go⟩ := h
  refine ⟨G, env, R, go.bnd.imp fun p e1 G1 H1 R1 S1 go1 v rv => ?_⟩
  refine ⟨G1, e1, R1, go1.bnd.imp fun q e2 G2 H2 R2 S2 go2 u ru => ?_⟩
  obtain ⟨d, hd, fin⟩ := go2.opt
  exact ⟨G2, p, q, d, R2.view, rv.mono S2, ru, hd, fun z G' H' gr rz => fin G' H' (R2.grow gr) gr.sub z rz⟩
theorem pe_binop {op : Operator} (o : XOk C x g W k S X) (ha : PE X a (rdE g W ma)) (hb : PE X b (rdE g W mb)) : PE X (.BinOp a op b pos) (rdE g W (bnd ma fun p => bnd mb fun q => opt (C.op op p q))) :=
  PE.of (pe_op (o.prX.op op) ha hb) fun _ _ _ h => rd_two h
theorem pe_neg (ha : PE X a (rdE g W ma)) : PE X (.UnaryOp .USub a pos) (rdE g W (bnd ma fun p => match p with | .int i => ret (.int (-i)) | _ => bad)) := by
  refine PE.of (pe_un un_neg ha) fun σ H Q ⟨G, env, R, go⟩ => ⟨G, env, R, go.bnd.imp fun p e1 G1 H1 R1 S1 go1 v rv => ?_⟩
  cases p with
  | int i => rw [rv.toInt]; exact ⟨i, rfl, go1 G1 H1 R1 (Same.refl _) _ (.int _)⟩
  | _ => exact go1.elim
theorem pe_notE (ha : PE X a (rdE g W ma)) : PE X (.UnaryOp .Not a pos) (rdE g W (bnd ma fun p => match p with | .bool i => ret (.bool !i) | _ => bad)) := by
  refine PE.of (pe_not ha) fun σ H Q ⟨G, env, R, go⟩ => ⟨G, env, R, go.bnd.imp fun p e1 G1 H1 R1 S1 go1 v rv => ?_⟩
  cases p with
  | bool i => rw [rv.toBl]; exact ⟨i, rfl, go1 G1 H1 R1 (Same.refl _) _ (.bl _)⟩
  | _ => exact go1.elim
theorem notSet_marks {op : CmpOp} {b : Expr} (h : isSet b = false) : behindInMarks op b = false := by
  cases b <;> first | rfl | cases h
theorem rd_cmp {op : CmpOp} {σ : L2.St} {H : Hp} {Q : VK} (h : rdE g W (bnd ma fun p => bnd mb fun q => bnd (opt (C.cmp op p q)) fun c => ret (.bool c)) σ H Q) :
    tOp (r2 g.K fun p q => (C.cmp op p q).map .bool) (rdE g W ma) (rdE g W mb) σ H Q := by
  refine rd_two (f := fun p q => (C.cmp op p q).map .bool) ?_
  obtain ⟨G, env, R, go⟩ := h
  refine ⟨G, env, R, ?_⟩
  have e : (bnd ma fun p => bnd mb fun q => opt ((C.cmp op p q).map PyData.bool)) = (bnd ma fun p => bnd mb fun q => bnd (opt (C.cmp op p q)) fun c => ret (.bool c)) := by
    congr 1; funext p; congr 1; funext q
    cases C.cmp op p q <;> rfl
  rw [e]
  exact go
theorem pe_cmp1 {op : CmpOp} (o : XOk C x g W k S X) (hs : isSet b = false) (ha : PE X a (rdE g W ma)) (hb : PE X b (rdE g W mb)) :
    PE X (.Compare a [op] [b] pos) (rdE g W (bnd ma fun p => bnd mb fun q => bnd (opt (C.cmp op p q)) fun c => ret (.bool c))) :=
  PE.of (pe_cmpR (o.prX.cmp op) ha hb (notSet_marks hs)) fun _ _ _ h => rd_cmp h
theorem rd_chain {op op' : CmpOp} {σ : L2.St} {H : Hp} {Q : VK} (h : rdE g W (bnd ma fun p => bnd mb fun q => bnd (opt (C.cmp op p q)) fun t => if t then bnd mc fun z => bnd (opt (C.cmp op' q z)) fun t' => ret (.bool t') else ret (.bool false)) σ H Q) :
    tChain (r2 g.K fun p q => (C.cmp op p q).map .bool) (r2 g.K fun p q => (C.cmp op' p q).map .bool) (rdE g W ma) (rdE g W mb) (rdE g W mc) σ H Q := by
  obtain ⟨G, env, R, go⟩ := h
  refine ⟨G, env, R, go.bnd.imp fun p e1 G1 H1 R1 S1 go1 v rv => ?_⟩
  refine ⟨G1, e1, R1, go1.bnd.imp fun q e2 G2 H2 R2 S2 go2 u ru => ?_⟩
  have go3 := go2.bnd
  obtain ⟨t, ht, fin⟩ := go3.opt
  refine ⟨G2, p, q, .bool t, R2.view, rv.mono S2, ru, (by show (C.cmp op p q).map PyData.bool = _; rw [ht]; rfl), fun z G' H' gr rz => ?_⟩
  have R3 := R2.grow gr
  refine ⟨t, rz.toBl, ?_⟩
  have q4 := fin G' H' R3 gr.sub
  cases t with
  | false => exact iteF (q4 G' H' R3 (Same.refl _) _ (.bl false))
  | true =>
    refine iteT ⟨G', e2, R3, q4.bnd.imp fun r e3 G4 H4 R4 S4 go4 y ry => ?_⟩
    have go5 := go4.bnd
    obtain ⟨t', ht', fin'⟩ := go5.opt
    exact ⟨G4, q, r, .bool t', R4.view, (ru.mono gr.sub).mono S4, ry, (by show (C.cmp op' q r).map PyData.bool = _; rw [ht']; rfl), fun z' G' H' gr' rz' => (fin' G' H' (R4.grow gr') gr'.sub) G' H' (R4.grow gr') (Same.refl _) z' rz'⟩
theorem pe_cmp2 {op op' : CmpOp} (o : XOk C x g W k S X) (hs : isSet b = false) (hs' : isSet c = false) (ha : PE X a (rdE g W ma)) (hb : PE X b (rdE g W mb)) (hc : PE X c (rdE g W mc)) :
    PE X (.Compare a [op, op'] [b, c] pos) (rdE g W (bnd ma fun p => bnd mb fun q => bnd (opt (C.cmp op p q)) fun t => if t then bnd mc fun z => bnd (opt (C.cmp op' q z)) fun t' => ret (.bool t') else ret (.bool false))) :=
  PE.of (pe_chain (o.prX.cmp op) (o.prX.cmp op') ha hb hc (notSet_marks hs')) fun _ _ _ h => rd_chain h
theorem pe_ite {mt : M Bool} (hc : PT X c (rdT g W mt)) (ha : PE X a (rdE g W ma)) (hb : PE X b (rdE g W mb)) : PE X (.IfExp c a b pos) (rdE g W (bnd mt fun t => if t then ma else mb)) := by
  refine PE.of (pe_ifExp hc ha hb) fun σ H Q ⟨G, env, R, go⟩ => ⟨G, env, R, go.bnd.imp fun t e1 G1 H1 R1 S1 go1 => ?_⟩
  cases t with
  | true => exact iteT ⟨G1, e1, R1, go1⟩
  | false => exact iteF ⟨G1, e1, R1, go1⟩
/-- and, or as values -/
theorem pe_boolE {f : Expr → M D} (hf : ∀ e, PE X e (rdE g W (f e))) (op : BoolOp) : ∀ es, PE X (.BoolOp op es pos) (rdE g W (boolE f op es))
  | [] => pe_bad
  | [a] => pe_one (hf a)
  | a :: b :: r => by
    have ih := pe_boolE hf op (b :: r)
    cases op with
    | And =>
      refine PE.of (pe_and (hf a) ih) fun σ H Q ⟨G, env, R, go⟩ => ⟨G, env, R, go.bnd.imp fun p e1 G1 H1 R1 S1 go1 v rv => ?_⟩
      cases p with
      | bool t =>
        refine ⟨t, rv.toBl, ?_⟩
        cases t with
        | true => exact iteT ⟨G1, e1, R1, go1⟩
        | false => exact iteF (go1 G1 H1 R1 (Same.refl _) _ (.bl false))
      | _ => exact go1.elim
    | Or =>
      refine PE.of (pe_or (hf a) ih) fun σ H Q ⟨G, env, R, go⟩ => ⟨G, env, R, go.bnd.imp fun p e1 G1 H1 R1 S1 go1 v rv => ?_⟩
      cases p with
      | bool t =>
        refine ⟨t, rv.toBl, ?_⟩
        cases t with
        | true => exact iteT (go1 G1 H1 R1 (Same.refl _) _ (.bl true))
        | false => exact iteF ⟨G1, e1, R1, go1⟩
      | _ => exact go1.elim
/-- .. as tests -/
theorem pw_boolT {f : Expr → M Bool} (hf : ∀ e, PT X e (rdT g W (f e))) (op : BoolOp) : ∀ es, PW X (.BoolOp op es pos) (rdT g W (boolT f op es))
  | [] => ⟨fun _ _ _ _ _ _ _ h => by obtain ⟨_, _, _, q⟩ := h; exact q.elim⟩
  | [a] => by
    cases op with
    | And => exact pw_and1 (hf a)
    | Or => exact pw_or1 (hf a)
  | a :: b :: r => by
    have ih := pw_boolT hf op (b :: r)
    cases op with
    | And =>
      refine PW.of (pw_and (hf a) ih) fun σ H Q ⟨G, env, R, go⟩ => ⟨G, env, R, go.bnd.imp fun t e1 G1 H1 R1 S1 go1 => ?_⟩
      cases t with
      | true => exact iteT ⟨G1, e1, R1, go1⟩
      | false => exact iteF (go1 G1 H1 R1 (Same.refl _))
    | Or =>
      refine PW.of (pw_or (hf a) ih) fun σ H Q ⟨G, env, R, go⟩ => ⟨G, env, R, go.bnd.imp fun t e1 G1 H1 R1 S1 go1 => ?_⟩
      cases t with
      | true => exact iteT (go1 G1 H1 R1 (Same.refl _))
      | false => exact iteF ⟨G1, e1, R1, go1⟩
theorem pt_notT {mt : M Bool} (h : PT X a (rdT g W mt)) : PT X (.UnaryOp .Not a pos) (rdT g W (bnd mt fun t => ret (!t))) :=
  PT.of (pt_not h) fun σ H Q ⟨G, env, R, go⟩ => ⟨G, env, R, go.bnd.imp fun t e1 G1 H1 R1 S1 go1 => go1 G1 H1 R1 (Same.refl _)⟩
theorem rd_bool {σ : L2.St} {H : Hp} {Q : Bool → Hp → Prop} (h : rdT g W (bnd ma asBool) σ H Q) : rdE g W ma σ H fun v H1 => ∃ t, v = .bl t ∧ Q t H1 := by
  obtain ⟨G, env, R, go⟩ := h
  refine ⟨G, env, R, go.bnd.imp fun p e1 G1 H1 R1 S1 go1 v rv => ?_⟩
  cases p with
  | bool t => exact ⟨t, rv.toBl, go1 G1 H1 R1 (Same.refl _)⟩
  | _ => exact go1.elim
theorem pt_valE {e : Expr} {m : M D} (h : PE X e (rdE g W m)) (he : ∀ whole, isTrue e X.env whole = (do let v ← whole; standAt e.pos; holding [v] (truthy v))) : PT X e (rdT g W (bnd m asBool)) :=
  PT.of (pt_val h he) fun _ _ _ h => rd_bool h

/-! ### lists of expressions -/
theorem star_cons {e : Expr} {es : List Expr} {env : Env} (h : isStar e = false) : starEach (e :: es) env = (false, eval e env) :: starEach es env := by
  cases e <;> first | rfl | cases h
theorem pa_mapE {f : Expr → M D} (hf : ∀ e, PE X e (rdE g W (f e))) : ∀ es, PA X es (rdA g W (mapE f es))
  | [] => PA.of pa_nil fun σ H Q ⟨G, env, R, go⟩ => go G H R (Same.refl _) [] .nil
  | e :: es => by
    unfold mapE
    split
    · exact ⟨fun _ _ _ _ _ _ _ h => by obtain ⟨_, _, _, q⟩ := h; exact q.elim⟩
    · rename_i hs
      refine PA.of (pa_cons (hf e) (pa_mapE hf es) (star_cons (by simpa using hs))) fun σ H Q ⟨G, env, R, go⟩ => ⟨G, env, R, go.bnd.imp fun p e1 G1 H1 R1 S1 go1 v rv => ?_⟩
      exact ⟨G1, e1, R1, go1.bnd.imp fun ds e2 G2 H2 R2 S2 go2 vs rvs => go2 G2 H2 R2 (Same.refl _) _ (.cons (rv.mono S2) rvs)⟩
theorem lim_line {n : Nat} (h : n ≤ lim) : n ≤ sizeLine := by
  have := sizeLine_eq
  unfold lim at h
  omega
theorem pe_tupE {es : List Expr} {m : M (List D)} {k2 : Nat} (h : PA X es (rdA g W m)) : PE X (.Tuple es k2 pos) (rdE g W (bnd m fun ds => if ds.length ≤ lim then ret (.tuple ds) else bad)) := by
  refine PE.of (pe_tup h) fun σ H Q ⟨G, env, R, go⟩ => ⟨G, env, R, go.bnd.imp fun ds e1 G1 H1 R1 S1 go1 vs rvs => ?_⟩
  by_cases hl : ds.length ≤ lim
  · rw [if_pos hl] at go1
    have hv : vs.length ≤ sizeLine := by rw [rvs.length]; exact lim_line hl
    refine ⟨hv, fun p hp => ?_⟩
    have gr : Grow G1 H1 (upd G1 p (.tup vs)) (upd H1 p (.tup vs)) := Grow.fresh R1.view hp hv
    exact go1 _ _ (R1.grow gr) gr.sub _ (.tup (.inl (.inl upd_same)) (rvs.mono gr.sub))
  · rw [if_neg hl] at go1
    exact go1.elim
theorem pe_lstE {es : List Expr} {m : M (List D)} (h : PA X es (rdA g W m)) : PE X (.List es pos) (rdE g W (bnd m fun ds => if ds.length ≤ lim then ret (.list ds) else bad)) := by
  refine PE.of (pe_lst h) fun σ H Q ⟨G, env, R, go⟩ => ⟨G, env, R, go.bnd.imp fun ds e1 G1 H1 R1 S1 go1 vs rvs => ?_⟩
  by_cases hl : ds.length ≤ lim
  · rw [if_pos hl] at go1
    have hv : vs.length ≤ sizeLine := by rw [rvs.length]; exact lim_line hl
    refine ⟨hv, fun p hp => ?_⟩
    have gr : Grow G1 H1 (upd G1 p (.lst vs)) (upd H1 p (.lst vs)) := Grow.fresh R1.view hp hv
    exact go1 _ _ (R1.grow gr) gr.sub _ (.lst upd_same (rvs.mono gr.sub))
  · rw [if_neg hl] at go1
    exact go1.elim

/-! ### subscripts -/
theorem po_partE {f : Expr → M D} (hf : ∀ e, PE X e (rdE g W (f e))) : ∀ e : Option Expr, PO X e (fun σ H Q => ∃ G env, Rl g G H σ env ∧ Go g W G σ (partE f e env) fun o _ _ H' => Q o H')
  | none => ⟨fun pins s σ H Q I h => po_none.run pins s σ H Q I (by
      obtain ⟨G, env, R, go⟩ := h
      exact go G H R (Same.refl _))⟩
  | some e => ⟨fun pins s σ H Q I h => (po_some (hf e)).run pins s σ H Q I (by
      obtain ⟨G, env, R, go⟩ := h
      refine ⟨G, env, R, go.bnd.imp fun p e1 G1 H1 R1 S1 go1 v rv => ?_⟩
      cases p with
      | int i => exact ⟨i, rv.toInt, go1 G1 H1 R1 (Same.refl _)⟩
      | _ => exact go1.elim)⟩
theorem pe_sliceE {f : Expr → M D} {lo hi : Option Expr} {p2 : Pos} (o : XOk C x g W k S X) (hf : ∀ e, PE X e (rdE g W (f e))) :
    PE X (.Subscript a (.Slice lo hi none p2) pos) (rdE g W (bnd (f a) fun p => bnd (partE f lo) fun l => bnd (partE f hi) fun h => opt (C.sl p l h))) := by
  refine PE.of (pe_slice o.prX.sl (hf a) (po_partE hf lo) (po_partE hf hi)) fun σ H Q ⟨G, env, R, go⟩ => ⟨G, env, R, go.bnd.imp fun p e1 G1 H1 R1 S1 go1 v rv => ?_⟩
  refine ⟨G1, e1, R1, go1.bnd.imp fun l e2 G2 H2 R2 S2 go2 => ⟨G2, e2, R2, go2.bnd.imp fun h e3 G3 H3 R3 S3 go3 => ?_⟩⟩
  obtain ⟨d, hd, fin⟩ := go3.opt
  exact ⟨G3, p, d, R3.view, (rv.mono S2).mono S3, hd, fun z G' H' gr rz => fin G' H' (R3.grow gr) gr.sub z rz⟩
theorem pe_revE {m : M D} {s : Expr} {p3 : Pos} (o : XOk C x g W k S X) (ha : PE X a (rdE g W m)) (hs : isMinus1 s = true) :
    PE X (.Subscript a (.Slice none none (some s) p3) pos) (rdE g W (bnd m fun p => opt (C.rv p))) := by
  unfold isMinus1 at hs
  split at hs
  · refine PE.of (o.prX.rv ha) fun σ H Q ⟨G, env, R, go⟩ => ⟨G, env, R, go.bnd.imp fun p e1 G1 H1 R1 S1 go1 v rv => ?_⟩
    obtain ⟨d, hd, fin⟩ := go1.opt
    exact ⟨G1, p, d, R1.view, rv, hd, fun z G' H' gr rz => fin G' H' (R1.grow gr) gr.sub z rz⟩
  · cases hs
theorem plainIx {i : Expr} (h : isSlice i = false) : PlainIx i := fun _ _ => by
  cases i <;> first | rfl | cases h
/-- what lentAt tells -/
theorem lentAt_some {e : Expr} {env : En} {i : Nat} (h : lentAt C S e env = some i) : ∃ y p, e = .Name y p ∧ slot C y = some i ∧ visB S.vis y = true ∧ plainN y = true ∧ ∃ ds, lent i env = some ds := by
  unfold lentAt at h
  split at h
  · rename_i y p
    split at h
    · rename_i hv
      rw [Bool.and_eq_true] at hv
      split at h
      · rename_i j hj
        split at h
        · rename_i ds hd
          cases h
          exact ⟨y, p, rfl, hj, hv.1, hv.2, ds, hd⟩
        · cases h
      · cases h
    · cases h
  · cases h
theorem ixN_at {n : Nat} {i : Int} {j : Nat} (h0 : 0 ≤ i) (hj : i.toNat = j) (hn : j < n) : ixN n i = some j := by
  unfold ixN
  rw [if_pos h0, if_pos (by omega), hj]
theorem atI_at {α : Type} {l : List α} {i : Int} {v : α} (h0 : 0 ≤ i) (h : l[i.toNat]? = some v) : atI l i = some v := by
  obtain ⟨h1, h2⟩ := List.getElem?_eq_some_iff.mp h
  unfold atI
  rw [ixN_at h0 rfl h1]
  exact h
theorem pe_ixE {f : Expr → M D} {i : Expr} (o : XOk C x g W k S X) (hf : ∀ e, PE X e (rdE g W (f e))) (hs : isSlice i = false) :
    PE X (.Subscript a i pos) (rdE g W (fun env => (match lentAt C S a env with
      | some j => (bnd (f i) fun y => fun env' => match lent j env', y with
        | some ds, .int k => if 0 ≤ k then (match ds[k.toNat]? with
          | some d => .ok d env'
          | none => .bad) else .bad
        | _, _ => .bad) env
      | none => (bnd (f a) fun x => bnd (f i) fun y => opt (C.ix x y)) env))) := by
  refine ⟨fun pins s σ H Q I h => ?_⟩
  obtain ⟨G, env, R, go⟩ := h
  dsimp only at go
  split at go
  · rename_i j hj
    obtain ⟨y, p, rfl, h1, h2, h3, ds, hd⟩ := lentAt_some hj
    refine (pe_ix (ix_list (X := X)) (o.var h1 h2 h3) (hf i) (plainIx hs)).run pins s σ H Q I ?_
    obtain ⟨a0, vs0, q1, _⟩ := R.lent hd
    refine ⟨.ref a0, q1, G, env, R, go.bnd.imp fun p e1 G1 H1 R1 S1 go1 v rv => ?_⟩
    split at go1
    · rename_i ds1 kk hl
      split at go1
      · rename_i h0
        split at go1
        · rename_i d hg
          obtain ⟨a1, vs1, w1, w2, w3, w4, w5, w6, w7⟩ := R1.lent hl
          have ea : a1 = a0 := by rw [q1] at w1; cases w1; rfl
          subst ea
          obtain ⟨u, hu, ru⟩ := w6.getD hg
          exact ⟨a1, vs1, kk, u, rfl, rv.toInt, .inl (.inl w2), atI_at h0 hu, go1 G1 H1 R1 (Same.refl _) u ru⟩
        · exact go1.elim
      · exact go1.elim
    · exact go1.elim
  · exact (pe_ix o.prX.ix (hf a) (hf i) (plainIx hs)).run pins s σ H Q I (rd_two ⟨G, env, R, go⟩)
end
end TD

set_option Elab.async false
set_option linter.all false
set_option maxRecDepth 100000
/-! TD5: calls, methods, what is walked, comprehensions. -/
namespace TD
open PySem PySem.Spec PyProof.Rows L2

section
variable {C : Cst} {x : Fx} {g : Gh} {W : WX} {k : Nat} {S : Sc} {X : Cx}
/-! ### results known ahead -/
theorem bnd_ok {α β : Type} {m : M α} {f : α → M β} {env : En} {a : α} {e : En} (h : m env = .ok a e) : bnd m f env = f a e := by unfold bnd; rw [h]
theorem bnd_exc {α β : Type} {m : M α} {f : α → M β} {env : En} {c : Str} {e : En} (h : m env = .exc c e) : bnd m f env = .exc c e := by unfold bnd; rw [h]
theorem bnd_bad {α β : Type} {m : M α} {f : α → M β} {env : En} (h : m env = .bad) : bnd m f env = .bad := by unfold bnd; rw [h]
/-- behind a part that raises nothing -/
theorem Go.noExc {α β : Type} {m : M α} {f : α → M β} {env : En} {G : Hp} {σ : L2.St} {Q : β → En → Hp → Hp → Prop} (h : Go g W G σ (TD.bnd (TD.noExc m) f env) Q) : ∃ a e, m env = .ok a e ∧ Go g W G σ (f a e) Q := by
  unfold TD.bnd TD.noExc at h
  cases q : m env with
  | ok a e => rw [q] at h; exact ⟨a, e, rfl, h⟩
  | exc c e => rw [q] at h; exact h.elim
  | bad => rw [q] at h; exact h.elim
theorem Go.of_ok {α : Type} {r : Res α} {a : α} {e : En} {G : Hp} {σ : L2.St} {Q : α → En → Hp → Hp → Prop} (h : r = .ok a e) (f : ∀ G' H', Rl g G' H' σ e → Sub G G' → Q a e G' H') : Go g W G σ r Q := by
  rw [h]
  exact f
theorem star_any {es : List Expr} {env : Env} {pos : Pos} (h : es.any isStar = false) : (backTo pos (starEach es env)).any (·.1) = false := by
  induction es with
  | nil => rfl
  | cons e es ih =>
    rw [List.any_cons, Bool.or_eq_false_iff] at h
    rw [star_cons h.1]
    show (false || (backTo pos (starEach es env)).any (·.1)) = false
    rw [ih h.2]
    rfl
theorem mapE_length {α : Type} {f : Expr → M α} : ∀ {es : List Expr} {env e : En} {ds : List α}, mapE f es env = .ok ds e → ds.length = es.length
  | [], env, e, ds, h => by cases h; rfl
  | a :: es, env, e, ds, h => by
    unfold mapE at h
    split at h
    · cases h
    · cases q : f a env with
      | ok d e1 =>
        rw [bnd_ok q] at h
        cases q2 : mapE f es e1 with
        | ok r e2 =>
          rw [bnd_ok q2] at h
          cases h
          simp [mapE_length q2]
        | exc c e2 => rw [bnd_exc q2] at h; cases h
        | bad => rw [bnd_bad q2] at h; cases h
      | exc c e1 => rw [bnd_exc q] at h; cases h
      | bad => rw [bnd_bad q] at h; cases h

/-! ### built-in functions -/
theorem pe_bf {f : Expr → M D} {y : Str} {args : List Expr} {p pos : Pos} (o : XOk C x g W k S X) (hf : ∀ e, PE X e (rdE g W (f e))) (hg : gloB S.vis y = true) (hst : args.any isStar = false) :
    PE X (.Call (.Name y p) args [] pos) (rdE g W (bnd (noExc (mapE f args)) fun ds => opt (C.bf y ds))) := by
  refine ⟨fun pins s σ H Q I h => ?_⟩
  obtain ⟨G, env, R, go⟩ := h
  obtain ⟨ds, e1, hm, go1⟩ := go.noExc
  obtain ⟨d, hd, fin⟩ := go1.opt
  obtain ⟨hne, mgn, hn, hdb, hcase⟩ := o.prX.bf y ds d hd
  cases args with
  | nil => exact (hne (List.length_eq_zero_iff.mp (mapE_length hm))).elim
  | cons a es =>
    rw [List.any_cons, Bool.or_eq_false_iff] at hst
    have rd : rdA g W (mapE f (a :: es)) σ H (fun vs H1 => rN g.K (C.bf y) vs H1 Q) := ⟨G, env, R, Go.of_ok hm fun G1 H1 R1 S1 vs rvs =>
      ⟨G1, ds, d, R1.view, rvs, hd, fun v G' H' gr rv => fin G' H' (R1.grow gr) (S1.trans gr.sub) v rv⟩⟩
    rcases hcase with ⟨id, hb, hc⟩ | ⟨T', hb, hc⟩
    · exact (pe_callB hc (o.gl hg) (by rw [o.on.mg]; exact mgn) hb (pa_mapE hf (a :: es)) hn hdb (star_cons hst.1) (star_any hst.2)).run pins s σ H Q I rd
    · exact (pe_callTy hc (o.gl hg) (by rw [o.on.mg]; exact mgn) hb (pa_mapE hf (a :: es)) hn hdb (star_cons hst.1) (star_any hst.2)).run pins s σ H Q I rd
/-- isinstance(a, T) -/
theorem pe_isi {a : Expr} {m : M D} {T' : Str} {p p2 pos : Pos} (o : XOk C x g W k S X) (ha : PE X a (rdE g W m)) (hs : isStar a = false) (hg : gloB S.vis "isinstance" = true) (hgT : gloB S.vis T' = true) :
    PE X (.Call (.Name "isinstance" p) [a, .Name T' p2] [] pos) (rdE g W (bnd (noExc m) fun d => bnd (opt (C.isi T' d)) fun b => ret (.bool b))) := by
  refine ⟨fun pins s σ H Q I h => ?_⟩
  obtain ⟨G, env, R, go⟩ := h
  obtain ⟨d, e1, hm, go1⟩ := go.noExc
  have go2 := go1.bnd
  obtain ⟨b, hb, fin⟩ := go2.opt
  obtain ⟨tn, hT, mgT, nT, dT, hc⟩ := o.prX.isi T' d b hb
  have pT : PE X (.Name T' p2) (tC (.ty tn)) := pe_bltn (o.gl hgT) (by rw [o.on.mg]; exact mgT) hT rfl nT dT
  refine (pe_callB hc (o.gl hg) (by rw [o.on.mg]; exact o.prX.free _ (by simp)) PyProof.Rows.boot_isinstance (pa_cons ha (pa_cons pT pa_nil) (star_cons hs)) (by decide) (by decide) (star_cons hs) (by rfl)).run pins s σ H Q I ?_
  refine ⟨G, env, R, Go.of_ok hm fun G1 H1 R1 S1 v rv => ?_⟩
  exact ⟨v, G1, d, b, rfl, R1.view, rv, hb, (fin G1 H1 R1 S1) G1 H1 R1 (Same.refl _) _ (.bl b)⟩
/-- len of a list of ours -/
theorem pe_lenOwn {a : Expr} {f : Expr → M D} {p pos : Pos} (o : XOk C x g W k S X) (hf : ∀ e, PE X e (rdE g W (f e))) (hs : isStar a = false) (hg : gloB S.vis "len" = true) :
    PE X (.Call (.Name "len" p) [a] [] pos) (rdE g W (fun env => (match lentAt C S a env with
              | some j => (match lent j env with
                | some ds => .ok (.int ds.length) env
                | none => .bad)
              | none => (bnd (noExc (mapE f [a])) fun ds => opt (C.bf "len" ds)) env))) := by
  refine ⟨fun pins s σ H Q I h => ?_⟩
  obtain ⟨G, env, R, go⟩ := h
  dsimp only at go
  split at go
  · rename_i j hj
    obtain ⟨y, p', rfl, h1, h2, h3, ds, hd⟩ := lentAt_some hj
    rw [hd] at go
    obtain ⟨a0, vs, q1, q2, q3, q4, q5, q6, q7⟩ := R.lent hd
    refine (pe_callB call_len_seq (o.gl hg) (by rw [o.on.mg]; exact o.prX.free _ (by simp)) PySem.boot_len (pa_cons (o.var h1 h2 h3) pa_nil)).run pins s σ H Q I ?_
    refine ⟨.ref a0, q1, a0, vs, rfl, .inl (.inl (.inl q2)), ?_⟩
    rw [q6.length]
    exact go G H R (Same.refl _) _ (.int _)
  · exact (pe_bf o hf hg (by rw [List.any_cons, hs]; rfl)).run pins s σ H Q I ⟨G, env, R, go⟩

/-! ### methods -/
theorem base_of {e : Expr} {m : Str} {env : Env} (h : isCall0 e = false) : attributeBase e m env (eval e env) = eval e env := by
  unfold attributeBase
  split
  · cases h
  · rfl
theorem few_of {cpos : Pos} {es : List Expr} {env : Env} (h : es.any isStar = false) (hl : es.length < 25) :
    ((backTo cpos (starEach es env)).all (fun x => !x.1) && (backToKw cpos (keywordEach [] env)).all (fun x => x.1.isSome)
      && decide (es.length + ([] : List Keyword).length + (if ([] : List Keyword).isEmpty then 0 else 1) < 30)) = true := by
  have h1 := star_any (env := env) (pos := cpos) h
  have h2 : (backTo cpos (starEach es env)).all (fun x => !x.1) = true := by
    rw [List.all_eq_not_any_not]
    simp only [Bool.not_not]
    rw [h1]
    rfl
  rw [h2]
  have h3 : decide (es.length + ([] : List Keyword).length + (if ([] : List Keyword).isEmpty then 0 else 1) < 30) = true := decide_eq_true (by simp; omega)
  rw [h3]
  rfl
theorem tyV_of {K : PySem.W.Frag} {G H : Hp} {v : V} {d : D} (s : Sub G H) (r : Rp K G v d) (h : tyD d ≠ "") : tyV K (tyD d) v H := by
  cases r with
  | lst h1 h2 => exact .inl ⟨rfl, _, .inl (.inl (s _ _ h1))⟩
  | str z => rfl
  | _ => exact (h rfl).elim
/-- o.m(args), o data -/
theorem pe_mt {f : Expr → M D} {e : Expr} {m : Str} {args : List Expr} {apos cpos : Pos} (o : XOk C x g W k S X) (hf : ∀ e, PE X e (rdE g W (f e))) (h0 : isCall0 e = false) (hl : (apos.endLine == cpos.line) = true) (hst : args.any isStar = false) :
    PE X (.Call (.Attribute e m apos) args [] cpos) (rdE g W (bnd (noExc (f e)) fun p => bnd (noExc (mapE f args)) fun ds => opt (C.mt m p ds))) := by
  refine ⟨fun pins s σ H Q I h => ?_⟩
  obtain ⟨G, env, R, go⟩ := h
  obtain ⟨a, e1, hm, go1⟩ := go.noExc
  obtain ⟨ds, e2, hm2, go2⟩ := go1.noExc
  obtain ⟨d, hd, fin⟩ := go2.opt
  obtain ⟨hty, hne, hlen, id, pa, slo, ht, hr⟩ := o.prX.mt m a ds d hd
  cases args with
  | nil => exact (hne (List.length_eq_zero_iff.mp (mapE_length hm2))).elim
  | cons b es =>
    have hst2 := hst
    rw [List.any_cons, Bool.or_eq_false_iff] at hst
    refine (pe_bm pa slo ht hr (hf e) (pa_mapE hf (b :: es)) (base_of h0) (few_of hst2 (by rw [← mapE_length hm2]; exact hlen)) hl (star_cons hst.1) (star_any hst.2)).run pins s σ H Q I ?_
    refine ⟨G, env, R, Go.of_ok hm fun G1 H1 R1 S1 v rv => ?_⟩
    refine ⟨by rw [o.K]; exact tyV_of R1.view.sub rv hty, G1, e1, R1, Go.of_ok hm2 fun G2 H2 R2 S2 vs rvs => ?_⟩
    exact ⟨G2, a, ds, d, R2.view, rv.mono S2, rvs, (by show (if tyD a = tyD a then C.mt m a ds else none) = some d; rw [if_pos rfl]; exact hd), fun z G' H' gr rz => fin G' H' (R2.grow gr) ((S1.trans S2).trans gr.sub) z rz⟩
end
end TD

set_option Elab.async false
set_option linter.all false
set_option maxRecDepth 100000
/-! TD6: methods of lists of ours, calls of own defs. -/
namespace TD
open PySem PySem.Spec PyProof.Rows L2

section
variable {C : Cst} {x : Fx} {g : Gh} {W : WX} {k : Nat} {S : Sc} {X : Cx}
theorem lt_lim {n : Nat} (h : n < lim) : n < sizeLine := by
  have := sizeLine_eq
  unfold lim at h
  omega
theorem strs_of {K : PySem.W.Frag} {G : Hp} : ∀ {vs : List V} {ds : List D}, RpAll K G vs ds → (ds.all fun d => match d with | .str _ => true | _ => false) = true → ∃ zs : List Str, vs = zs.map V.str ∧ ds = zs.map PyData.str
  | _, _, .nil, _ => ⟨[], rfl, rfl⟩
  | _, _, .cons r t, h => by
    rw [List.all_cons, Bool.and_eq_true] at h
    obtain ⟨zs, e1, e2⟩ := strs_of t h.2
    cases r with
    | str z => exact ⟨z :: zs, by rw [e1]; rfl, by rw [e2]; rfl⟩
    | non => exact absurd h.1 (by simp)
    | bl b => exact absurd h.1 (by simp)
    | int i => exact absurd h.1 (by simp)
    | lst _ _ => exact absurd h.1 (by simp)
    | tup _ _ => exact absurd h.1 (by simp)
    | dct _ => exact absurd h.1 (by simp [dictD])
theorem strs_all {K : PySem.W.Frag} {G : Hp} : ∀ zs : List Str, RpAll K G (zs.map V.str) (zs.map PyData.str)
  | [] => .nil
  | z :: zs => .cons (.str z) (strs_all zs)
theorem find_str {z : Str} : ∀ {zs : List Str} {j : Nat}, (zs.map PyData.str).findIdx? (fun d => match d with | .str y => y == z | _ => false) = some j → zs[j]? = some z ∧ ∀ m : Nat, m < j → zs[m]? ≠ some z
  | [], j, h => by cases h
  | y :: zs, j, h => by
    rw [List.map_cons, List.findIdx?_cons] at h
    dsimp only at h
    split at h
    · rename_i e
      cases h
      exact ⟨by simp [beq_iff_eq.mp e], fun m hm => absurd hm (by omega)⟩
    · rename_i e
      cases q : (zs.map PyData.str).findIdx? (fun d => match d with | .str y => y == z | _ => false) with
      | none => rw [q] at h; cases h
      | some i =>
        rw [q] at h
        have e2 : i + 1 = j := Option.some.inj h
        subst e2
        obtain ⟨h1, h2⟩ := find_str q
        refine ⟨by simpa using h1, fun m hm => ?_⟩
        cases m with
        | zero =>
          intro z2
          apply e
          simp at z2
          rw [z2]
          exact beq_self_eq_true _
        | succ m =>
          simp only [List.getElem?_cons_succ]
          exact h2 m (by omega)
theorem map_erase {α β : Type} (f : α → β) : ∀ (l : List α) (i : Nat), (l.map f).eraseIdx i = (l.eraseIdx i).map f
  | [], _ => rfl
  | _ :: _, 0 => rfl
  | a :: l, i + 1 => by simp [map_erase f l i]
/-- x.m(..), x a list of ours -/
theorem pe_own {f : Expr → M D} {e : Expr} {m : Str} {args : List Expr} {apos cpos : Pos} {i : Nat} (o : XOk C x g W k S X) (hf : ∀ e, PE X e (rdE g W (f e))) (hl : (apos.endLine == cpos.line) = true) (hst : args.any isStar = false)
    {pins : List (Addr × Obj)} {s : Shared} {σ : L2.St} {H : Hp} {Q : VK} (I : L2.Inv X pins σ H s) {G : Hp} {env : En} (R : Rl g G H σ env) (hi : lentAt C S e env = some i)
    (go : Go g W G σ (ownMeth C f i m args env) fun d _ G' H' => ∀ v, Rp g.K G' v d → Q v H') :
    wpAny (model X.prog X.w) X.A (eval (.Call (.Attribute e m apos) args [] cpos) X.env) (EP X pins σ Q) X.xe s := by
  obtain ⟨y, p, rfl, h1, h2, h3, ds, hd⟩ := lentAt_some hi
  obtain ⟨a, vs, q1, q2, q3, q4, q5, q6, q7⟩ := R.lent hd
  have pn : PE X (.Name y p) (tVar i) := o.var h1 h2 h3
  have tyL : tyV X.K "list" (.ref a) H := .inl ⟨rfl, _, .inl (.inl q2)⟩
  unfold ownMeth at go
  split at go
  · -- append
    rename_i hm
    obtain rfl := beq_iff_eq.mp hm
    split at go
    · rename_i b
      rw [List.any_cons, Bool.or_eq_false_iff] at hst
      refine (pe_bm PySem.F.plainAttrs_list PySem.F.slot_list_append PySem.F.type_list_append mt_append pn (pa_cons (hf b) pa_nil (star_cons hst.1)) (base_of rfl) (few_of (by rw [List.any_cons, hst.1]; rfl) (by show 1 < 25; decide)) hl (star_cons hst.1) (star_any hst.2)).run pins s σ H Q I ?_
      refine ⟨.ref a, q1, tyL, G, env, R, go.bnd.imp fun d e1 G1 H1 R1 S1 go1 v rv => ?_⟩
      split at go1
      · rename_i ds1 hd1
        obtain ⟨a1, vs1, w1, w2, w3, w4, w5, w6, w7⟩ := R1.lent hd1
        obtain rfl : a1 = a := by rw [q1] at w1; cases w1; rfl
        split at go1
        · rename_i hlen
          have hvl : vs1.length < sizeLine := by rw [w6.length]; exact lt_lim hlen
          refine ⟨a1, vs1, v, rfl, rfl, w2, hvl, ?_⟩
          have R2 := R1.write (vs' := vs1 ++ [v]) (ds' := ds1 ++ [d]) hd1 w1 (by rw [List.length_append]; exact hvl) (w6.append (.cons rv .nil))
          exact go1 _ _ R2 (Same.refl _) _ .non
        · exact go1.elim
      · exact go1.elim
    · exact go.elim
  · split at go
    · -- pop
      rename_i hm
      obtain rfl := beq_iff_eq.mp hm
      split at go
      · refine (pe_bm0 PySem.F.plainAttrs_list PySem.F.slot_list_pop PySem.F.type_list_pop mt_pop pn (base_of rfl) hl).run pins s σ H Q I ?_
        rw [hd] at go
        dsimp only at go
        split at go
        · rename_i d hg
          have hg2 : ds[ds.length - 1]? = some d := by rw [← List.getLast?_eq_getElem?]; exact hg
          obtain ⟨v, hv, rv⟩ := q6.getD hg2
          rw [← q6.length] at hv
          refine ⟨.ref a, q1, tyL, a, vs, v, rfl, rfl, q2, hv, ?_⟩
          have R2 := R.write (vs' := vs.dropLast) (ds' := ds.dropLast) hd q1 (by rw [List.length_dropLast]; omega) q6.dropLast
          exact go _ _ R2 (Same.refl _) _ rv
        · exact go.elim
      · rename_i b
        rw [List.any_cons, Bool.or_eq_false_iff] at hst
        refine (pe_bm PySem.F.plainAttrs_list PySem.F.slot_list_pop PySem.F.type_list_pop mt_popAt pn (pa_cons (hf b) pa_nil (star_cons hst.1)) (base_of rfl) (few_of (by rw [List.any_cons, hst.1]; rfl) (by show 1 < 25; decide)) hl (star_cons hst.1) (star_any hst.2)).run pins s σ H Q I ?_
        refine ⟨.ref a, q1, tyL, G, env, R, go.bnd.imp fun d e1 G1 H1 R1 S1 go1 v rv => ?_⟩
        split at go1
        · rename_i kk ds1 hd1
          obtain ⟨a1, vs1, w1, w2, w3, w4, w5, w6, w7⟩ := R1.lent hd1
          obtain rfl : a1 = a := by rw [q1] at w1; cases w1; rfl
          split at go1
          · rename_i hk
            split at go1
            · rename_i d hg
              obtain ⟨u, hu, ru⟩ := w6.getD hg
              have hul : vs1.length = ds1.length := w6.length
              have hz := sizeLine_eq
              refine ⟨a1, vs1, kk, kk.toNat, u, rfl, by rw [rv.toInt], w2, by omega, by omega, (ixN_seq (ixN_at hk.1 rfl (by omega))).1, hu, ?_⟩
              have R2 := R1.write (vs' := vs1.eraseIdx kk.toNat) (ds' := ds1.eraseIdx kk.toNat) hd1 w1 (Nat.le_trans (len_erase _ _) w5) (w6.eraseIdx _)
              exact go1 _ _ R2 (Same.refl _) _ ru
            · exact go1.elim
          · exact go1.elim
        · exact go1.elim
      · exact go.elim
    · split at go
      · -- remove
        rename_i hm
        obtain rfl := beq_iff_eq.mp hm
        split at go
        · rename_i b
          rw [List.any_cons, Bool.or_eq_false_iff] at hst
          refine (pe_bm PySem.F.plainAttrs_list PySem.F.slot_list_remove PySem.F.type_list_remove o.prX.rem pn (pa_cons (hf b) pa_nil (star_cons hst.1)) (base_of rfl) (few_of (by rw [List.any_cons, hst.1]; rfl) (by show 1 < 25; decide)) hl (star_cons hst.1) (star_any hst.2)).run pins s σ H Q I ?_
          refine ⟨.ref a, q1, tyL, G, env, R, go.bnd.imp fun d e1 G1 H1 R1 S1 go1 v rv => ?_⟩
          split at go1
          · rename_i z ds1 hd1
            obtain ⟨a1, vs1, w1, w2, w3, w4, w5, w6, w7⟩ := R1.lent hd1
            obtain rfl : a1 = a := by rw [q1] at w1; cases w1; rfl
            split at go1
            · rename_i hall
              obtain ⟨zs, e1, e2⟩ := strs_of w6 hall
              subst e1 e2
              split at go1
              · rename_i j hj
                obtain ⟨f1, f2⟩ := find_str hj
                refine ⟨a1, zs, z, j, rfl, by rw [rv.toStr], w2, f1, f2, ?_⟩
                have R2 := R1.write (vs' := (zs.eraseIdx j).map V.str) (ds' := (zs.map PyData.str).eraseIdx j) hd1 w1 (by rw [List.length_map]; rw [List.length_map] at w5; exact Nat.le_trans (len_erase _ _) w5)
                  (by rw [map_erase]; exact strs_all _)
                exact go1 _ _ R2 (Same.refl _) _ .non
              · exact go1.elim
            · exact go1.elim
          · exact go1.elim
        · exact go.elim
      · exact go.elim

/-! ### calls -/
/-- what the caller keeps -/
def frameOf (G H : Hp) (ex : Addr → Bool) : Hp := fun b => match G b with
  | some _ => none
  | none => if ex b then none else H b
theorem frameOf_some {G H : Hp} {ex : Addr → Bool} {b : Addr} {u : HO} (h1 : H b = some u) (h2 : G b = none) (h3 : ex b = false) : frameOf G H ex b = some u := by
  unfold frameOf
  rw [h2, h3]
  exact h1
theorem frameOf_inv {G H : Hp} {ex : Addr → Bool} {b : Addr} {u : HO} (h : frameOf G H ex b = some u) : H b = some u ∧ G b = none ∧ ex b = false := by
  unfold frameOf at h
  split at h
  · cases h
  · rename_i q
    split at h
    · cases h
    · rename_i q2
      exact ⟨h, q, by simpa using q2⟩
/-- values as arguments -/
theorem vals_env {K : PySem.W.Frag} {G : Hp} {vs : List V} {ds : List D} (r : RpAll K G vs ds) {i : Nat} {t : Sl} (h : (ds.map Sl.val)[i]? = some t) : ∃ v d, t = .val d ∧ vs[i]? = some v ∧ Rp K G v d := by
  rw [List.getElem?_map] at h
  cases q : ds[i]? with
  | none => rw [q] at h; cases h
  | some d =>
    rw [q] at h
    obtain ⟨v, hv, rv⟩ := r.getD q
    exact ⟨v, d, (Option.some.inj h).symm, hv, rv⟩
theorem lent_vals {ds : List D} {i : Nat} : lent i (ds.map Sl.val) = none := by
  unfold lent
  rw [List.getElem?_map]
  cases ds[i]? <;> rfl
theorem Rl.argsV {G H : Hp} {σ : L2.St} {env : En} {vs : List V} {ds : List D} (R : Rl g G H σ env) (r : RpAll g.K G vs ds) :
    Rl ⟨g.K, g.T, Bof vs, frameOf G H (fun _ => false), g.cl⟩ G H (vs.map some) (ds.map Sl.val) := by
  have fi : ∀ b o, frameOf G H (fun _ => false) b = some o → H b = some o ∧ G b = none ∧ (fun _ : Addr => false) b = false := fun b o e => frameOf_inv e
  refine ⟨by rw [List.length_map, List.length_map, r.length], R.view, fun b o e n => (fi b o e).1, fun b o e => ⟨⟨o, (fi b o e).1⟩, (fi b o e).2.1⟩, R.tabs, fun i t e => ?_, fun i j a p q => ?_⟩
  · obtain ⟨v, d, rfl, hv, rv⟩ := vals_env r e
    exact ⟨v, by rw [List.getElem?_map, hv]; rfl, rv⟩
  · have p1 := p.1
    rw [lent_vals] at p1
    cases p1
/-- with a lent list ahead -/
theorem Rl.argsP {G H : Hp} {σ : L2.St} {env : En} {vs : List V} {cs ds : List D} {a : Addr} {i : Nat} (R : Rl g G H σ env) (h : TD.lent i env = some cs) (ha : σ[i]? = some (some (.ref a))) (r : RpAll g.K G vs ds) :
    Rl ⟨g.K, g.T, Bof (.ref a :: vs), frameOf G H (fun b => decide (b = a)), g.cl⟩ G H ((V.ref a :: vs).map some) (.par cs :: ds.map Sl.val) := by
  obtain ⟨a', us, q1, q2, q3, q4, q5, q6, q7⟩ := R.lent h
  obtain rfl : a' = a := by rw [ha] at q1; cases q1; rfl
  have fi : ∀ b o, frameOf G H (fun b => decide (b = a')) b = some o → H b = some o ∧ G b = none ∧ (fun b : Addr => decide (b = a')) b = false := fun b o e => frameOf_inv e
  refine ⟨by rw [List.length_map, List.length_cons, List.length_cons, List.length_map, r.length], R.view, fun b o e n => (fi b o e).1, fun b o e => ⟨⟨o, (fi b o e).1⟩, (fi b o e).2.1⟩, R.tabs, fun j t e => ?_, fun j l b p q => ?_⟩
  · cases j with
    | zero =>
      have e2 : Sl.par cs = t := Option.some.inj e
      subst e2
      refine ⟨a', us, rfl, q2, q3, ?_, q5, q6, rfl⟩
      show frameOf G H (fun b => decide (b = a')) a' = none
      unfold frameOf
      rw [q3]
      simp
    | succ j =>
      obtain ⟨v, d, rfl, hv, rv⟩ := vals_env r (show (ds.map Sl.val)[j]? = some t from e)
      exact ⟨v, by show (vs.map some)[j]? = _; rw [List.getElem?_map, hv]; rfl, rv⟩
  · have z : ∀ j b, At (Sl.par cs :: ds.map Sl.val) ((V.ref a' :: vs).map some) j b → j = 0 := fun j b p => by
      cases j with
      | zero => rfl
      | succ j =>
        have p1 := p.1
        have e : TD.lent (j + 1) (Sl.par cs :: ds.map Sl.val) = TD.lent j (ds.map Sl.val) := rfl
        rw [e, lent_vals] at p1
        cases p1
    rw [z j b p, z l b q]
/-- behind a call that was lent nothing -/
theorem Rl.backV {G H G' H' : Hp} {σ σ' : L2.St} {env o' : En} {vs : List V} (R : Rl g G H σ env) (R' : Rl ⟨g.K, g.T, Bof vs, frameOf G H (fun _ => false), g.cl⟩ G' H' σ' o') (s : Sub G G') : Rl g G' H' σ env := by
  have fs : ∀ b u, H b = some u → G b = none → frameOf G H (fun _ => false) b = some u := fun b u h1 h2 => frameOf_some h1 h2 rfl
  have out : ∀ b u, H b = some u → G b = none → (∃ o', H' b = some o') ∧ G' b = none := fun b u h1 h2 => R'.fdom b u (fs b u h1 h2)
  have kp : ∀ b u, H b = some u → G b = none → (∀ ps, u ≠ .tbl ps) → H' b = some u := fun b u h1 h2 n => R'.frame b u (fs b u h1 h2) n
  refine ⟨R.len, R'.view, fun b o e n => kp b o (R.frame b o e n) (R.fdom b o e).2 n, fun b o e => ?_, R'.tabs, fun i t e => ?_, R.apart⟩
  · obtain ⟨⟨u, h1⟩, h2⟩ := R.fdom b o e
    exact out b u h1 h2
  · have q := R.sl i t e
    cases t with
    | non => trivial
    | val d => obtain ⟨v, h1, h2⟩ := q; exact ⟨v, h1, h2.mono s⟩
    | own es =>
      obtain ⟨a, us, h1, h2, h3, h4, h5, h6⟩ := q
      exact ⟨a, us, h1, kp a _ h2 h3 (by simp), (out a _ h2 h3).2, h4, h5, h6.mono s⟩
    | par es =>
      obtain ⟨a, us, h1, h2, h3, h4, h5, h6, h7⟩ := q
      exact ⟨a, us, h1, kp a _ h2 h3 (by simp), (out a _ h2 h3).2, h4, h5, h6.mono s, h7⟩
/-- behind a call that was lent the list of slot i -/
theorem Rl.backP {G H G' H' : Hp} {σ : L2.St} {env o' : En} {vs : List V} {cs cs' : List D} {a : Addr} {i : Nat} (R : Rl g G H σ env) (h : TD.lent i env = some cs) (ha : σ[i]? = some (some (.ref a)))
    (R' : Rl ⟨g.K, g.T, Bof (.ref a :: vs), frameOf G H (fun b => decide (b = a)), g.cl⟩ G' H' ((V.ref a :: vs).map some) (.par cs' :: o')) (s : Sub G G') : Rl g G' H' σ (TD.putL i cs' env) := by
  obtain ⟨a', us, q1, q2, q3, q4, q5, q6, q7⟩ := R.lent h
  obtain rfl : a' = a := by rw [ha] at q1; cases q1; rfl
  obtain ⟨b', us', w1, w2, w3, _, w5, w6, _⟩ := R'.sl 0 _ (show (Sl.par cs' :: o')[0]? = some (.par cs') from rfl)
  obtain rfl : b' = a' := by cases (show (some (some (V.ref a')) : Option (Option V)) = some (some (.ref b')) from w1); rfl
  have fs : ∀ b u, H b = some u → G b = none → b ≠ b' → frameOf G H (fun b => decide (b = b')) b = some u := fun b u h1 h2 n => frameOf_some h1 h2 (decide_eq_false n)
  have out : ∀ b u, H b = some u → G b = none → b ≠ b' → (∃ o', H' b = some o') ∧ G' b = none := fun b u h1 h2 n => R'.fdom b u (fs b u h1 h2 n)
  have kp : ∀ b u, H b = some u → G b = none → b ≠ b' → (∀ ps, u ≠ .tbl ps) → H' b = some u := fun b u h1 h2 n n2 => R'.frame b u (fs b u h1 h2 n) n2
  have nF : ∀ b o, g.F b = some o → b ≠ b' := fun b o e z => by rw [z, q4] at e; cases e
  have lenE : (TD.putL i cs' env).length = env.length := by
    unfold TD.putL
    split <;> simp
  refine ⟨lenE.trans R.len, R'.view, fun b o e n => kp b o (R.frame b o e n) (R.fdom b o e).2 (nF b o e) n, fun b o e => ?_, R'.tabs, fun j t e => ?_, fun j l b p q => R.apart j l b p.putL q.putL⟩
  · obtain ⟨⟨u, h1⟩, h2⟩ := R.fdom b o e
    exact out b u h1 h2 (nF b o e)
  · have other : j ≠ i → env[j]? = some t → SlOk g G' H' σ j t := fun hj e => by
      have q := R.sl j t e
      cases t with
      | non => trivial
      | val d => obtain ⟨v, h1, h2⟩ := q; exact ⟨v, h1, h2.mono s⟩
      | own es =>
        obtain ⟨c, us, h1, h2, h3, h4, h5, h6⟩ := q
        have ne : c ≠ b' := fun z => hj (R.apart j i b' ⟨by rw [lent_iff.mpr (.inl e)]; rfl, by rw [← z]; exact h1⟩ q7)
        exact ⟨c, us, h1, kp c _ h2 h3 ne (by simp), (out c _ h2 h3 ne).2, h4, h5, h6.mono s⟩
      | par es =>
        obtain ⟨c, us, h1, h2, h3, h4, h5, h6, h7⟩ := q
        have ne : c ≠ b' := fun z => hj (R.apart j i b' ⟨by rw [lent_iff.mpr (.inr e)]; rfl, by rw [← z]; exact h1⟩ q7)
        exact ⟨c, us, h1, kp c _ h2 h3 ne (by simp), (out c _ h2 h3 ne).2, h4, h5, h6.mono s, h7⟩
    rcases lent_iff.mp h with q | q
    · have e1 : TD.putL i cs' env = env.set i (.own cs') := by unfold TD.putL; rw [q]
      rw [e1] at e
      by_cases hj : j = i
      · subst hj
        rw [get_set_eq q] at e
        cases e
        exact ⟨b', us', q1, w2, w3, q4, w5, w6⟩
      · rw [get_set_ne (Ne.symm hj)] at e
        exact other hj e
    · have e1 : TD.putL i cs' env = env.set i (.par cs') := by unfold TD.putL; rw [q]
      rw [e1] at e
      by_cases hj : j = i
      · subst hj
        rw [get_set_eq q] at e
        cases e
        obtain ⟨c, us2, z1, z2, z3, z4, z5, z6, z7⟩ := R.sl j _ q
        obtain rfl : c = b' := by rw [q1] at z1; cases z1; rfl
        exact ⟨c, us', q1, w2, w3, q4, w5, w6, z7⟩
      · rw [get_set_ne (Ne.symm hj)] at e
        exact other hj e
end
end TD

set_option Elab.async false
set_option linter.all false
set_option maxRecDepth 100000
/-! TD7: calls of own defs; targets; what is walked; comprehensions; all expressions. -/
namespace TD
open PySem PySem.Spec PyProof.Rows L2

section
variable {C : Cst} {x : Fx} {g : Gh} {W : WX} {k : Nat} {S : Sc} {X : Cx}
theorem pe_callE {f : Expr → M D} {y : Str} {dice : Bool} {n : Nat} {args : List Expr} {p pos : Pos} (o : XOk C x g W k S X) (hf : ∀ e, PE X e (rdE g W (f e))) (hg : gloB S.vis y = true) (hp : plainN y = true) (hst : args.any isStar = false)
    (ha : C.arity y = some (dice, n)) : PE X (.Call (.Name y p) args [] pos) (rdE g W (callE C S f y dice n args)) := by
  obtain ⟨n0, a, fd, ps, mgy, kp, hb, hlen, F⟩ := o.prX.call y dice n ha
  obtain ⟨db, _, _⟩ := plainN_db hp
  have F' : FnOk X.prog X.w X.K X.mg X.base (L2N.CX X.prog X.w) k a fd ps (SpOf g.K g.T g.cl n (C.call y)) := by
    rw [o.on.P, o.on.w, o.on.K, o.on.mg, o.on.base]
    exact F
  have hb' : Binds X.K fd ps [] := by rw [o.on.K]; exact hb
  have mg' : X.mg y = some (.ref a) := by rw [o.on.mg]; exact mgy
  have kp' : PySem.W.keepIn X.K (.ref a) = true := by rw [o.on.K]; exact kp
  unfold callE
  split
  · cases args with
    | nil => exact pe_bad
    | cons e es =>
      rw [List.any_cons, Bool.or_eq_false_iff] at hst
      refine ⟨fun pins s σ H Q I h => ?_⟩
      obtain ⟨G, env, R, go⟩ := h
      dsimp only at go
      split at go
      · rename_i i hi
        obtain ⟨yy, pp, rfl, h1, h2, h3, cs0, hc0⟩ := lentAt_some hi
        obtain ⟨aa, us, hs, _⟩ := R.lent hc0
        refine (pe_callS F' o.on.room (o.gl hg) mg' kp' hb' (fun σ => L2N.passAt o.tk σ) (pa_cons (o.var h1 h2 h3) (pa_mapE hf es)) db rfl (star_any hst.2)).run pins s σ H Q I ?_
        refine ⟨.ref aa, hs, G, env, R, go.bnd.imp fun ds e1 G1 H1 R1 S1 go1 vs rvs => ?_⟩
        split at go1
        · rename_i hl
          split at go1
          · rename_i cs hc
            refine ⟨frameOf G1 H1 (fun b => decide (b = aa)), G1, .par cs :: ds.map Sl.val, by rw [List.length_cons, List.length_map]; exact hl, R1.argsP hc hs rvs, ?_⟩
            split at go1
            · rename_i d cs' o' hr
              try rw [hr]
              exact fun v G' H' R' S' rv => go1 G' H' (R1.backP hc hs R' S') S' v rv
            · rename_i c cs' o' hr
              try rw [hr]
              exact fun G' H' R' S' => go1 G' H' (R1.backP hc hs R' S') S'
            · exact go1.elim
          · exact go1.elim
        · exact go1.elim
      · exact go.elim
  · cases args with
    | nil =>
      refine pe_false fun σ H Q h => ?_
      obtain ⟨G, env, R, go⟩ := h
      have go1 : Go g W G σ (if ([] : List D).length = n then _ else Res.bad) _ := go
      rw [if_neg (by simpa using Ne.symm n0)] at go1
      exact go1
    | cons e es =>
      rw [List.any_cons, Bool.or_eq_false_iff] at hst
      refine PE.of (pe_callS F' o.on.room (o.gl hg) mg' kp' hb' (fun σ => L2N.passAt o.tk σ) (pa_mapE hf (e :: es)) db (star_cons hst.1) (star_any hst.2)) fun σ H Q ⟨G, env, R, go⟩ => ?_
      refine ⟨G, env, R, go.bnd.imp fun ds e1 G1 H1 R1 S1 go1 vs rvs => ?_⟩
      split at go1
      · rename_i hl
        refine ⟨frameOf G1 H1 (fun _ => false), G1, ds.map Sl.val, by rw [List.length_map]; exact hl, R1.argsV rvs, ?_⟩
        split at go1
        · rename_i d o' hr
          try rw [hr]
          exact fun v G' H' R' S' rv => go1 G' H' (R1.backV R' S') S' v rv
        · rename_i c o' hr
          try rw [hr]
          exact fun G' H' R' S' => go1 G' H' (R1.backV R' S') S'
        · exact go1.elim
      · exact go1.elim

/-! ### targets -/
def rdG (g : Gh) (m : D → M Unit) (ts : List Nat) : TG := fun v σ H Q => ∃ G env d e', Rl g G H σ env ∧ Rp g.K G v d ∧ m d env = .ok () e' ∧
  ∀ σ', Rl g G H σ' e' → σ'.length = σ.length → (∀ j, j ∉ ts → σ'[j]? = σ[j]?) → Q σ' H
def rdGs (g : Gh) (m : List D → M Unit) (ts : List Nat) : TGs := fun vs σ H Q => ∃ G env ds e', Rl g G H σ env ∧ RpAll g.K G vs ds ∧ m ds env = .ok () e' ∧
  ∀ σ', Rl g G H σ' e' → σ'.length = σ.length → (∀ j, j ∉ ts → σ'[j]? = σ[j]?) → Q σ' H
theorem PGs.of {es : List Expr} {t t' : TGs} (h : PGs X es t) (f : ∀ vs σ H Q, t' vs σ H Q → t vs σ H Q) : PGs X es t' := ⟨fun pins s σ H vs us Q I r q => h.run pins s σ H vs us Q I r (f vs σ H Q q)⟩
theorem wrName_ok {y : Str} {v : Sl} {env e' : En} (h : wrName C S y v env = .ok () e') : ∃ i s', slot C y = some i ∧ locB S.vis y = true ∧ locB S.asg y = true ∧ env[i]? = some s' ∧ (∀ ds, s' ≠ .par ds) ∧ e' = env.set i v := by
  cases hi : slot C y with
  | none => simp only [wrName, hi] at h; cases h
  | some i =>
    simp only [wrName, hi] at h
    by_cases hl : (locB S.vis y && locB S.asg y) = true
    · rw [if_pos hl] at h
      rw [Bool.and_eq_true] at hl
      unfold wrSlot at h
      split at h
      · cases h
      · rename_i s' hne hs
        cases h
        exact ⟨i, s', rfl, hl.1, hl.2, hs, fun ds e => hne ds (by rw [← e]), rfl⟩
      · cases h
    · rw [if_neg hl] at h
      cases h
theorem XOk.tgt {y : Str} {i : Nat} {pos : Pos} (o : XOk C x g W k S X) (hi : slot C y = some i) (h1 : locB S.vis y = true) (h2 : locB S.asg y = true) : PG X (.Name y pos) (gName i) :=
  pg_name (by rw [o.N]; exact o.nd) (by rw [o.N]; exact slotIn_get hi) (by rw [o.sc]; exact locB_loc h1) (by rw [o.sc]; exact o.fn y h2)
theorem set_other {σ : L2.St} {i j : Nat} {v : Option V} (h : j ≠ i) : (σ.set i v)[j]? = σ[j]? := List.getElem?_set_ne (Ne.symm h)
end
section
variable {C : Cst} {x : Fx} {g : Gh} {W : WX} {k : Nat} {S : Sc} {X : Cx}
theorem asgs_one {f : Expr → D → M Unit} {e : Expr} {es : List Expr} {d : D} {ds : List D} {env e' : En} (h : asgs f (e :: es) (d :: ds) env = .ok () e') : ∃ e1, f e d env = .ok () e1 ∧ asgs f es ds e1 = .ok () e' := by
  unfold asgs at h
  cases q : f e d env with
  | ok a e1 => rw [bnd_ok q] at h; exact ⟨e1, rfl, h⟩
  | exc c e1 => rw [bnd_exc q] at h; cases h
  | bad => rw [bnd_bad q] at h; cases h
theorem tgt_each {e : Expr} {es : List Expr} {env : Env} (h : isStar e = false) : (assignEach (e :: es) env).map (·.2) = assign e env :: (assignEach es env).map (·.2) := by
  cases e <;> first | rfl | cases h
theorem pgs_asgs {f : Expr → D → M Unit} {ts : Expr → List Nat} (hf : ∀ e, PG X e (rdG g (f e) (ts e))) (hn : ∀ p e d env, f (.Starred p e) d env = .bad) : ∀ es : List Expr, PGs X es (rdGs g (asgs f es) (es.flatMap ts))
  | [] => PGs.of pgs_nil fun vs σ H Q ⟨G, env, ds, e', R, r, h, q⟩ => by
    cases r with
    | nil =>
      have e : env = e' := by
        have h2 : (Res.ok () env : Res Unit) = .ok () e' := h
        cases h2
        rfl
      subst e
      exact ⟨rfl, q σ R rfl fun _ _ => rfl⟩
    | cons r t => exact absurd h (by unfold asgs; intro z; cases z)
  | e :: es => by
    by_cases hs : isStar e = true
    · refine ⟨fun pins s σ H vs us Q I r h => ?_⟩
      obtain ⟨G, env, ds, e', R, rr, h, q⟩ := h
      cases e with
      | Starred p e2 =>
        cases rr with
        | nil => exact absurd h (by unfold asgs; intro z; cases z)
        | cons r t =>
          obtain ⟨e1, h1, h2⟩ := asgs_one h
          rw [hn] at h1
          cases h1
      | _ => cases hs
    · refine PGs.of (pgs_cons (hf e) (pgs_asgs hf hn es) (tgt_each (by simpa using hs))) fun vs σ H Q ⟨G, env, ds, e', R, r, h, q⟩ => ?_
      cases r with
      | nil => exact absurd h (by unfold asgs; intro z; cases z)
      | cons r t =>
        obtain ⟨e1, h1, h2⟩ := asgs_one h
        refine ⟨_, _, rfl, G, env, _, e1, R, r, h1, fun σ1 R1 l1 n1 => ⟨G, e1, _, e', R1, t, h2, fun σ2 R2 l2 n2 => q σ2 R2 (l2.trans l1) fun j hj => ?_⟩⟩
        rw [List.flatMap_cons, List.mem_append, not_or] at hj
        exact (n2 j hj.2).trans (n1 j hj.1)
theorem tup_len {es : List Expr} {env : Env} : (assignEach es env).length = es.length := by
  induction es with
  | nil => rfl
  | cons e es ih => cases e <;> exact congrArg (· + 1) ih
theorem tup_star {es : List Expr} {env : Env} (h : es.any isStar = false) : (assignEach es env).findIdx? (·.1) = none := by
  induction es with
  | nil => rfl
  | cons e es ih =>
    rw [List.any_cons, Bool.or_eq_false_iff] at h
    have ih := ih h.2
    cases e <;> first | (show List.findIdx? _ ((false, _) :: _) = none; rw [List.findIdx?_cons]; simp [ih]; done) | cases h.1
theorem asgs_length {f : Expr → D → M Unit} : ∀ {es : List Expr} {ds : List D} {env e' : En}, asgs f es ds env = .ok () e' → ds.length = es.length
  | [], [], _, _, _ => rfl
  | [], _ :: _, _, _, h => by unfold asgs at h; cases h
  | _ :: _, [], _, _, h => by unfold asgs at h; cases h
  | e :: es, d :: ds, env, e', h => by
    obtain ⟨e1, _, h2⟩ := asgs_one h
    simp [asgs_length h2]
theorem asgs_star {f : Expr → D → M Unit} (hn : ∀ p e d env, f (.Starred p e) d env = .bad) : ∀ {es : List Expr} {ds : List D} {env e' : En}, asgs f es ds env = .ok () e' → es.any isStar = false
  | [], [], _, _, _ => rfl
  | [], _ :: _, _, _, h => by unfold asgs at h; cases h
  | _ :: _, [], _, _, h => by unfold asgs at h; cases h
  | e :: es, d :: ds, env, e', h => by
    obtain ⟨e1, h1, h2⟩ := asgs_one h
    rw [List.any_cons, asgs_star hn h2, Bool.or_false]
    cases e with
    | Starred p e2 => rw [hn] at h1; cases h1
    | _ => rfl
theorem pg_asgE (o : XOk C x g W k S X) : ∀ (n : Nat) (e : Expr), PG X e (rdG g (asgE C S n e) (tslots C n e))
  | 0, e => pg_false fun v σ H Q ⟨_, _, _, _, _, _, h, _⟩ => by unfold asgE at h; cases h
  | n + 1, e => by
    cases e with
    | Name y pos =>
      refine ⟨fun pins s σ H v u Q I r h => ?_⟩
      obtain ⟨G, env, d, e', R, rp, h, q⟩ := h
      obtain ⟨i, s', hi, h1, h2, hs, hp, rfl⟩ := wrName_ok (show wrName C S y (.val d) env = .ok () e' from h)
      refine (o.tgt hi h1 h2).run pins s σ H v u Q I r ?_
      refine q _ (R.storeV hs rp) (List.length_set ..) fun j hj => set_other fun z => hj ?_
      show j ∈ (slot C y).toList
      rw [hi, z]
      simp
    | Tuple es kk pos =>
      have hn : ∀ p e d env, asgE C S n (.Starred p e) d env = .bad := fun p e d env => by cases n <;> rfl
      refine ⟨fun pins s σ H v u Q I r h => ?_⟩
      obtain ⟨G, env, d, e', R, rp, h, q⟩ := h
      have h : (match d with | .tuple ds => asgs (asgE C S n) es ds | .list ds => asgs (asgE C S n) es ds | _ => bad) env = .ok () e' := h
      cases d with
      | tuple ds =>
        obtain ⟨a, xs, rfl, sq, ra⟩ := rp.toTup
        refine (pg_tup o.on.calm (pgs_asgs (pg_asgE o n) hn es) tup_len (tup_star (asgs_star hn h))).run pins s σ H (.ref a) u Q I r ?_
        refine ⟨a, xs, rfl, by rw [o.K]; exact sqT_sub R.view.sub sq, by rw [ra.length]; exact asgs_length h, G, env, ds, e', R, ra, h, q⟩
      | list ds =>
        obtain ⟨a, xs, rfl, g, ra⟩ := rp.toLst
        refine (pg_unl o.on.calm (pgs_asgs (pg_asgE o n) hn es) tup_len (tup_star (asgs_star hn h))).run pins s σ H (.ref a) u Q I r ?_
        refine ⟨a, xs, rfl, .inl (.inl (R.view.sub _ _ g)), by rw [ra.length]; exact asgs_length h, G, env, ds, e', R, ra, h, q⟩
      | _ => cases h
    | _ => exact pg_false fun v σ H Q ⟨_, _, _, _, _, _, h, _⟩ => by cases h
end
end TD

set_option Elab.async false
set_option linter.all false
set_option maxRecDepth 100000
/-! TD8: what is walked. -/
namespace TD
open PySem PySem.Spec PyProof.Rows L2

def WalkD (K : PySem.W.Frag) (G : Hp) (items : List D) (J : It) : Prop := ∃ Y, Walk J items.length (fun H => Sub G H) Y ∧
  ∀ i H v H' G1 d, Sub G G1 → View G1 H → Y i H v H' → items[i]? = some d → ∃ G2, Grow G1 H G2 H' ∧ Rp K G2 v d
def rdI (g : Gh) (W : WX) (m : M (List D)) : TI := fun σ H R => ∃ G env, Rl g G H σ env ∧ Go g W G σ (m env) fun items _ G' H' => ∀ J, WalkD g.K G' items J → items.length ≤ sizeLine → R J H'

theorem walkD_list {K : PySem.W.Frag} {G : Hp} {a : Addr} {xs : List V} {ds : List D} (h : G a = some (.lst xs)) (r : RpAll K G xs ds) : WalkD K G ds (Itl K a) := by
  refine ⟨YAt xs, by rw [← r.length]; exact (walk_list (K := K) (a := a) (xs := xs)).mono (fun H s => .inl (.inl (s _ _ h))) (fun _ _ _ _ _ _ y => y), fun i H v H' G1 d s vw y e => ?_⟩
  obtain ⟨rfl, hx⟩ := y
  obtain ⟨d', e', rv⟩ := r.get hx
  rw [e] at e'
  cases e'
  exact ⟨G1, Grow.refl vw, rv.mono s⟩
theorem walkD_tup {K : PySem.W.Frag} {G : Hp} {a : Addr} {xs : List V} {ds : List D} (h : SqT K G a xs) (r : RpAll K G xs ds) : WalkD K G ds (Itt K a) := by
  refine ⟨YAt xs, by rw [← r.length]; exact (walk_tup (K := K) (a := a) (xs := xs)).mono (fun H s => sqT_sub s h) (fun _ _ _ _ _ _ y => y), fun i H v H' G1 d s vw y e => ?_⟩
  obtain ⟨rfl, hx⟩ := y
  obtain ⟨d', e', rv⟩ := r.get hx
  rw [e] at e'
  cases e'
  exact ⟨G1, Grow.refl vw, rv.mono s⟩
theorem walkD_str {K : PySem.W.Frag} {G : Hp} {z : Str} : WalkD K G (signs z) (Its z) := by
  have hn : (signs z).length = z.cps.size := by simp [signs]
  refine ⟨_, by rw [hn]; exact (walk_str (z := z)).mono (fun H _ => trivial) (fun _ _ _ _ _ _ y => y), fun i H v H' G1 d s vw y e => ?_⟩
  obtain ⟨rfl, c, hc, rfl⟩ := y
  have e2 : (signs z)[i]? = some (.str ⟨#[c]⟩) := by
    unfold signs
    rw [List.getElem?_map, Array.getElem?_toList, hc]
    rfl
  rw [e] at e2
  cases e2
  exact ⟨G1, Grow.refl vw, .str _⟩
theorem walkD_range {K : PySem.W.Frag} {G : Hp} {lo : Int} {n : Nat} : WalkD K G (upTo lo n) (Itr lo n) := by
  have hn : (upTo lo n).length = n := by simp [upTo]
  refine ⟨_, by rw [hn]; exact (walk_range (lo := lo) (n := n)).mono (fun H _ => trivial) (fun _ _ _ _ _ _ y => y), fun i H v H' G1 d s vw y e => ?_⟩
  obtain ⟨rfl, rfl⟩ := y
  have hi : i < n := by
    obtain ⟨h1, _⟩ := List.getElem?_eq_some_iff.mp e
    rw [hn] at h1
    exact h1
  have e2 : (upTo lo n)[i]? = some (.int (lo + i)) := by
    unfold upTo
    rw [List.getElem?_map, List.getElem?_range hi]
    rfl
  rw [e] at e2
  cases e2
  exact ⟨G1, Grow.refl vw, .int _⟩
theorem pair_grow {K : PySem.W.Frag} {G1 H H' : Hp} {T : Addr} {v u : V} {d e : D} (vw : View G1 H) (hT : H T = none) (hH : H' = upd H T (.tup [v, u])) (r1 : Rp K G1 v d) (r2 : Rp K G1 u e) : ∃ G2, Grow G1 H G2 H' ∧ Rp K G2 (.ref T) (.tuple [d, e]) := by
  subst hH
  have gr : Grow G1 H (upd G1 T (.tup [v, u])) (upd H T (.tup [v, u])) := Grow.fresh vw hT (by show 2 ≤ sizeLine; rw [sizeLine_eq]; omega)
  exact ⟨_, gr, .tup (.inl (.inl upd_same)) (.cons (r1.mono gr.sub) (.cons (r2.mono gr.sub) .nil))⟩
theorem numbered_get {ds : List D} {i : Nat} {d : D} (h : (numbered ds)[i]? = some d) : ∃ e, ds[i]? = some e ∧ d = .tuple [.int (i : Nat), e] := by
  unfold numbered at h
  rw [List.getElem?_map] at h
  cases q : ((List.range ds.length).zip ds)[i]? with
  | none => rw [q] at h; cases h
  | some p =>
    rw [q] at h
    obtain ⟨h1, h2⟩ := List.getElem?_zip_eq_some.mp q
    have hi : i < ds.length := by
      obtain ⟨z, _⟩ := List.getElem?_eq_some_iff.mp h2
      exact z
    rw [List.getElem?_range hi] at h1
    have e1 : i = p.1 := Option.some.inj h1
    refine ⟨p.2, h2, ?_⟩
    have e2 : PyData.tuple [PyData.int (p.1 : Nat), p.2] = d := Option.some.inj h
    rw [← e2, ← e1]
theorem numbered_len (ds : List D) : (numbered ds).length = ds.length := by simp [numbered]
theorem pairUp_get {as bs : List D} {i : Nat} {d : D} (h : (pairUp as bs)[i]? = some d) : ∃ a b, as[i]? = some a ∧ bs[i]? = some b ∧ d = .tuple [a, b] := by
  unfold pairUp at h
  rw [List.getElem?_map] at h
  cases q : (as.zip bs)[i]? with
  | none => rw [q] at h; cases h
  | some p =>
    rw [q] at h
    obtain ⟨h1, h2⟩ := List.getElem?_zip_eq_some.mp q
    exact ⟨p.1, p.2, h1, h2, (Option.some.inj h).symm⟩
theorem pairUp_len (as bs : List D) : (pairUp as bs).length = min as.length bs.length := by simp [pairUp]
theorem walkD_enum {K : PySem.W.Frag} {G : Hp} {a : Addr} {xs : List V} {ds : List D} (h : G a = some (.lst xs)) (r : RpAll K G xs ds) : WalkD K G (numbered ds) (Ite K a) := by
  refine ⟨_, by rw [numbered_len, ← r.length]; exact (walk_enum (K := K) (a := a) (xs := xs)).mono (fun H s => .inl (.inl (s _ _ h))) (fun _ _ _ _ _ _ y => y), fun i H v H' G1 d s vw y e => ?_⟩
  obtain ⟨T, u, w, rfl, hT, hH, h1, h2⟩ := y
  obtain ⟨c, e1, rfl⟩ := numbered_get e
  obtain ⟨c', e2, rv⟩ := r.get h2
  rw [e1] at e2
  cases e2
  cases h1
  exact pair_grow vw hT hH (.int _) (rv.mono s)
theorem walk_enumT {K : PySem.W.Frag} {a : Addr} {xs : List V} : Walk (ItTe K a) xs.length (fun H => SqT K H a xs) (YPair (fun i => some (.int (i : Nat))) (fun i => xs[i]?)) := by
  refine ⟨fun i _ hi q => ⟨xs, xs[i], q, by simp [hi]⟩, fun _ q => ⟨xs, q, Nat.le_refl _⟩, fun i H v H' _ q y => ?_⟩
  obtain ⟨T, x, h1, h2, h3, h4⟩ := y
  exact ⟨T, .int (i : Nat), x, h1, h2, h3, rfl, h4 xs q⟩
theorem walkD_enumT {K : PySem.W.Frag} {G : Hp} {a : Addr} {xs : List V} {ds : List D} (h : SqT K G a xs) (r : RpAll K G xs ds) : WalkD K G (numbered ds) (ItTe K a) := by
  refine ⟨_, by rw [numbered_len, ← r.length]; exact (walk_enumT (K := K) (a := a) (xs := xs)).mono (fun H s => sqT_sub s h) (fun _ _ _ _ _ _ y => y), fun i H v H' G1 d s vw y e => ?_⟩
  obtain ⟨T, u, w, rfl, hT, hH, h1, h2⟩ := y
  obtain ⟨c, e1, rfl⟩ := numbered_get e
  obtain ⟨c', e2, rv⟩ := r.get h2
  rw [e1] at e2
  cases e2
  cases h1
  exact pair_grow vw hT hH (.int _) (rv.mono s)
theorem walkD_zip {K : PySem.W.Frag} {G : Hp} {a b : Addr} {xs ys : List V} {ds es : List D} (h : G a = some (.lst xs)) (r : RpAll K G xs ds) (h' : G b = some (.lst ys)) (r' : RpAll K G ys es) : WalkD K G (pairUp ds es) (Itz K a b) := by
  refine ⟨_, by rw [pairUp_len, ← r.length, ← r'.length]; exact (walk_zip (K := K) (a := a) (b := b) (xs := xs) (ys := ys) rfl).mono (fun H s => ⟨.inl (.inl (s _ _ h)), .inl (.inl (s _ _ h'))⟩) (fun _ _ _ _ _ _ y => y), fun i H v H' G1 d s vw y e => ?_⟩
  obtain ⟨T, u, w, rfl, hT, hH, h1, h2⟩ := y
  obtain ⟨c, c2, e1, e2, rfl⟩ := pairUp_get e
  obtain ⟨c', e3, rv⟩ := r.get h1
  obtain ⟨c2', e4, rv2⟩ := r'.get h2
  rw [e1] at e3; cases e3
  rw [e2] at e4; cases e4
  exact pair_grow vw hT hH (rv.mono s) (rv2.mono s)
theorem walk_zipT {K : PySem.W.Frag} {a b : Addr} {xs ys : List V} : Walk (RZ.ItzT K a b) (min xs.length ys.length) (fun H => SqT K H a xs ∧ SqT K H b ys) (YPair (fun i => xs[i]?) (fun i => ys[i]?)) := by
  refine ⟨fun i _ hi q => ?_, fun _ q => ⟨xs, ys, q.1, q.2, by omega⟩, fun i H v H' _ q y => ?_⟩
  · have h1 : i < xs.length := by omega
    have h2 : i < ys.length := by omega
    exact ⟨xs, ys, xs[i], ys[i], q.1, q.2, by simp [h1], by simp [h2]⟩
  · obtain ⟨T, x, z, h1, h2, h3, h4, h5⟩ := y
    exact ⟨T, x, z, h1, h2, h3, h4 xs q.1, h5 ys q.2⟩
theorem walkD_zipT {K : PySem.W.Frag} {G : Hp} {a b : Addr} {xs ys : List V} {ds es : List D} (h : SqT K G a xs) (r : RpAll K G xs ds) (h' : SqT K G b ys) (r' : RpAll K G ys es) : WalkD K G (pairUp ds es) (RZ.ItzT K a b) := by
  refine ⟨_, by rw [pairUp_len, ← r.length, ← r'.length]; exact (walk_zipT (K := K) (a := a) (b := b) (xs := xs) (ys := ys)).mono (fun H s => ⟨sqT_sub s h, sqT_sub s h'⟩) (fun _ _ _ _ _ _ y => y), fun i H v H' G1 d s vw y e => ?_⟩
  obtain ⟨T, u, w, rfl, hT, hH, h1, h2⟩ := y
  obtain ⟨c, c2, e1, e2, rfl⟩ := pairUp_get e
  obtain ⟨c', e3, rv⟩ := r.get h1
  obtain ⟨c2', e4, rv2⟩ := r'.get h2
  rw [e1] at e3; cases e3
  rw [e2] at e4; cases e4
  exact pair_grow vw hT hH (rv.mono s) (rv2.mono s)

theorem PI.of {X : Cx} {tg it : Expr} {t t' : TI} (h : PI X tg it t) (f : ∀ σ H R, t' σ H R → t σ H R) : PI X tg it t' := ⟨fun pins s σ H R I q => h.run pins s σ H R I (f σ H R q)⟩
theorem pi_false {X : Cx} {tg it : Expr} {t : TI} (f : ∀ σ H R, t σ H R → False) : PI X tg it t := ⟨fun pins s σ H R I q => (f σ H R q).elim⟩
theorem notSet_fold {it : Expr} {env : Env} (h : isSet it = false) : ∀ x, foldedSetIterable it env x = pure x := fun x => by
  cases it <;> first | rfl | cases h
section
variable {C : Cst} {x : Fx} {g : Gh} {W : WX} {k : Nat} {S : Sc} {X : Cx}
theorem pi_bad {tg it : Expr} : PI X tg it (rdI g W bad) := pi_false fun _ _ _ h => by obtain ⟨_, _, _, q⟩ := h; exact q
/-- a list, a tuple, a text -/
theorem pi_seqE {tg it : Expr} {m : M D} (o : XOk C x g W k S X) (h : PE X it (rdE g W m)) : PI X tg it (rdI g W (bnd m fun d => opt (seqOf d))) := by
  refine ⟨fun pins s σ H R I q => ?_⟩
  obtain ⟨G, env, Rr, go⟩ := q
  cases e : m env with
  | bad => rw [bnd_bad e] at go; exact go.elim
  | exc c e1 =>
    rw [bnd_exc e] at go
    refine (pi_list h).run pins s σ H R I ⟨G, env, Rr, ?_⟩
    rw [e]
    exact go
  | ok d e1 =>
    rw [bnd_ok e] at go
    obtain ⟨items, hi, fin⟩ := go.opt
    cases d with
    | list ds =>
      cases hi
      refine (pi_list h).run pins s σ H R I ⟨G, env, Rr, ?_⟩
      rw [e]
      intro G' H' R' S' v rv
      obtain ⟨a, xs, rfl, ha, ra⟩ := rv.toLst
      refine ⟨a, rfl, ⟨xs, .inl (.inl (R'.view.sub _ _ ha))⟩, ?_⟩
      rw [o.K]
      exact fin G' H' R' S' _ (walkD_list ha ra) (R'.view.lst (.lst ha ra : Rp g.K G' _ _))
    | tuple ds =>
      cases hi
      refine (pi_tup h).run pins s σ H R I ⟨G, env, Rr, ?_⟩
      rw [e]
      intro G' H' R' S' v rv
      obtain ⟨a, xs, rfl, ha, ra⟩ := rv.toTup
      refine ⟨a, rfl, ⟨xs, by rw [o.K]; exact sqT_sub R'.view.sub ha⟩, ?_⟩
      rw [o.K]
      exact fin G' H' R' S' _ (walkD_tup ha ra) (R'.view.tup (.tup ha ra : Rp g.K G' _ _))
    | str z =>
      have hi : (if z.cps.size ≤ lim then some (signs z) else none) = some items := hi
      by_cases hl : z.cps.size ≤ lim
      · rw [if_pos hl] at hi
        cases hi
        refine (pi_str h).run pins s σ H R I ⟨G, env, Rr, ?_⟩
        rw [e]
        intro G' H' R' S' v rv
        refine ⟨z, rv.toStr, fin G' H' R' S' _ walkD_str ?_⟩
        have : (signs z).length = z.cps.size := by simp [signs]
        rw [this]
        exact lim_line hl
      · rw [if_neg hl] at hi
        cases hi
    | _ => cases hi
theorem smallI_62 {i : Int} (h : smallI i = true) : -(2 ^ 62) ≤ i ∧ i < 2 ^ 62 ∧ -100000 ≤ i ∧ i ≤ 100000 := by
  unfold smallI at h
  rw [Bool.and_eq_true, decide_eq_true_eq, decide_eq_true_eq] at h
  omega
theorem bltB_glo {y : Str} (h : bltB C S y = true) : gloB S.vis y = true := by
  unfold bltB at h
  simp only [Bool.and_eq_true] at h
  exact h.1.1.1
theorem pa_one {a : Expr} {m : M D} (ha : PE X a (rdE g W m)) (hs : isStar a = false) : PA X [a] (tCons (rdE g W m) tNil) := pa_cons ha pa_nil (star_cons hs)
theorem pi_iterE {f : Expr → M D} {tg it : Expr} (o : XOk C x g W k S X) (hf : ∀ e, PE X e (rdE g W (f e))) : PI X tg it (rdI g W (iterE C S f tg it)) := by
  unfold iterE
  split
  · rename_i y p args pos
    split
    · exact pi_bad
    rename_i hst0
    have hst : args.any isStar = false := by simpa using hst0
    clear hst0
    split
    · -- range
      rename_i hy
      obtain rfl := beq_iff_eq.mp hy
      split
      · rename_i hb
        have mgr : X.mg "range" = none := by rw [o.on.mg]; exact o.prX.free _ (by simp)
        have glr := o.gl (bltB_glo hb)
        split
        · rename_i a
          rw [List.any_cons, Bool.or_eq_false_iff] at hst
          refine PI.of (pi_range1 glr mgr (pa_one (hf a) hst.1) (star_cons hst.1)) fun σ H R ⟨G, env, Rr, go⟩ => ?_
          refine ⟨G, env, Rr, go.bnd.imp fun d e1 G1 H1 R1 S1 go1 v rv => ?_⟩
          cases d with
          | int n =>
            dsimp only at go1
            by_cases hs : smallI n = true
            · rw [if_pos hs] at go1
              obtain ⟨b1, b2, b3, b4⟩ := smallI_62 hs
              refine ⟨n, by rw [rv.toInt], b1, b2, go1 G1 H1 R1 (Same.refl _) _ walkD_range ?_⟩
              have : (upTo 0 n.toNat).length = n.toNat := by simp [upTo]
              rw [this, sizeLine_eq]
              omega
            · rw [if_neg hs] at go1
              exact go1.elim
          | _ => exact go1.elim
        · rename_i a b
          rw [List.any_cons, Bool.or_eq_false_iff, List.any_cons, Bool.or_eq_false_iff] at hst
          refine PI.of (pi_range2 glr mgr (pa_cons (hf a) (pa_one (hf b) hst.2.1) (star_cons hst.1)) (by rw [star_cons hst.1, star_cons hst.2.1]; rfl) (star_cons hst.2.1)) fun σ H R ⟨G, env, Rr, go⟩ => ?_
          refine ⟨G, env, Rr, go.bnd.imp fun d e1 G1 H1 R1 S1 go1 v rv => ⟨G1, e1, R1, go1.bnd.imp fun d2 e2 G2 H2 R2 S2 go2 u ru => ?_⟩⟩
          split at go2
          · rename_i lo hi
            by_cases hs : (smallI lo && smallI hi) = true
            · rw [if_pos hs] at go2
              rw [Bool.and_eq_true] at hs
              obtain ⟨b1, b2, b3, b4⟩ := smallI_62 hs.1
              obtain ⟨c1, c2, c3, c4⟩ := smallI_62 hs.2
              refine ⟨lo, hi, by rw [rv.toInt, ru.toInt], ⟨b1, b2, c1, c2⟩, go2 G2 H2 R2 (Same.refl _) _ walkD_range ?_⟩
              have : (upTo lo (hi - lo).toNat).length = (hi - lo).toNat := by simp [upTo]
              rw [this, sizeLine_eq]
              omega
            · rw [if_neg hs] at go2
              exact go2.elim
          · exact go2.elim
        · exact pi_bad
      · exact pi_bad
    · split
      · -- enumerate
        rename_i hy
        obtain rfl := beq_iff_eq.mp hy
        split
        · rename_i hb
          rw [Bool.and_eq_true] at hb
          have mgr : X.mg "enumerate" = none := by rw [o.on.mg]; exact o.prX.free _ (by simp)
          have glr := o.gl (bltB_glo hb.1)
          have hbt := hb.2
          cases tg with
          | Tuple elts kk tpos =>
            split
            · rename_i a
              rw [List.any_cons, Bool.or_eq_false_iff] at hst
              have hs1 : starEach [a] X.env = [(false, eval a X.env)] := star_cons hst.1
              refine ⟨fun pins s σ H R I q => ?_⟩
              obtain ⟨G, env, Rr, go⟩ := q
              cases e : f a env with
              | bad => rw [bnd_bad e] at go; exact go.elim
              | exc c e1 =>
                rw [bnd_exc e] at go
                refine (pi_enum glr mgr (pa_one (hf a) hst.1) hs1).run pins s σ H R I ⟨G, env, Rr, ?_⟩
                rw [e]
                exact go
              | ok d e1 =>
                rw [bnd_ok e] at go
                cases d with
                | list ds =>
                  refine (pi_enum glr mgr (pa_one (hf a) hst.1) hs1).run pins s σ H R I ⟨G, env, Rr, ?_⟩
                  rw [e]
                  intro G' H' R' S' v rv
                  obtain ⟨b, xs, rfl, ha, ra⟩ := rv.toLst
                  refine ⟨b, xs, rfl, .inl (.inl (R'.view.sub _ _ ha)), ?_⟩
                  rw [o.K]
                  exact go G' H' R' S' _ (walkD_enum ha ra) (by rw [numbered_len]; exact R'.view.lst (.lst ha ra : Rp g.K G' _ _))
                | tuple ds =>
                  refine (o.prX.enumT glr (pa_one (hf a) hst.1) hs1).run pins s σ H R I ⟨G, env, Rr, ?_⟩
                  rw [e]
                  intro G' H' R' S' v rv
                  obtain ⟨b, xs, rfl, ha, ra⟩ := rv.toTup
                  refine ⟨b, xs, rfl, sqT_sub R'.view.sub ha, ?_⟩
                  exact go G' H' R' S' _ (walkD_enumT ha ra) (by rw [numbered_len]; exact R'.view.tup (.tup ha ra : Rp g.K G' _ _))
                | _ => exact go.elim
            · exact pi_bad
          | _ => cases hbt
        · exact pi_bad
      · split
        · -- zip
          rename_i hy
          obtain rfl := beq_iff_eq.mp hy
          split
          · rename_i hb
            rw [Bool.and_eq_true] at hb
            have mgr : X.mg "zip" = none := by rw [o.on.mg]; exact o.prX.free _ (by simp)
            have glr := o.gl (bltB_glo hb.1)
            have hbt := hb.2
            cases tg with
            | Tuple elts kk tpos =>
              split
              · rename_i a b
                rw [List.any_cons, Bool.or_eq_false_iff] at hst
                have hst2 := hst.2
                rw [List.any_cons, Bool.or_eq_false_iff] at hst2
                refine PI.of (RZ.pi_zipA glr mgr (pa_cons (hf a) (pa_one (hf b) hst2.1) (star_cons hst.1)) (star_cons hst.1) (star_any hst.2)) fun σ H R ⟨G, env, Rr, go⟩ => ?_
                refine ⟨G, env, Rr, go.bnd.imp fun d e1 G1 H1 R1 S1 go1 v rv => ⟨G1, e1, R1, go1.bnd.imp fun d2 e2 G2 H2 R2 S2 go2 u ru => ?_⟩⟩
                split at go2
                · rename_i ds es
                  obtain ⟨a1, xs, rfl, h1, r1⟩ := (rv.mono S2).toLst
                  obtain ⟨a2, ys, rfl, h2, r2⟩ := ru.toLst
                  refine ⟨a1, a2, xs, ys, rfl, .inl ⟨.inl (.inl (R2.view.sub _ _ h1)), .inl (.inl (R2.view.sub _ _ h2)), ?_⟩⟩
                  rw [o.K]
                  refine go2 G2 H2 R2 (Same.refl _) _ (walkD_zip h1 r1 h2 r2) ?_
                  rw [pairUp_len]
                  exact Nat.le_trans (Nat.min_le_left _ _) (R2.view.lst (.lst h1 r1 : Rp g.K G2 _ _))
                · rename_i ds es
                  obtain ⟨a1, xs, rfl, h1, r1⟩ := (rv.mono S2).toTup
                  obtain ⟨a2, ys, rfl, h2, r2⟩ := ru.toTup
                  rw [o.K]
                  refine ⟨a1, a2, xs, ys, rfl, .inr ⟨sqT_sub R2.view.sub h1, sqT_sub R2.view.sub h2, ?_⟩⟩
                  refine go2 G2 H2 R2 (Same.refl _) _ (walkD_zipT h1 r1 h2 r2) ?_
                  rw [pairUp_len]
                  exact Nat.le_trans (Nat.min_le_left _ _) (R2.view.tup (.tup h1 r1 : Rp g.K G2 _ _))
                · exact go2.elim
              · exact pi_bad
            | _ => cases hbt
          · exact pi_bad
        · exact pi_seqE o (hf _)
  · split
    · exact pi_bad
    · exact pi_seqE o (hf _)
end
end TD

set_option Elab.async false
set_option linter.all false
set_option maxRecDepth 100000
/-! TD9: comprehensions; all expressions. -/
namespace TD
open PySem PySem.Spec PyProof.Rows L2

/-! ### slots forgotten and brought back -/
theorem wipeE_len (env : En) : ∀ vs : List Nat, (wipeE env vs).length = env.length
  | [] => rfl
  | v :: vs => by unfold wipeE; rw [List.length_set, wipeE_len env vs]
theorem wipeE_out {env : En} {i : Nat} : ∀ {vs : List Nat}, i ∉ vs → (wipeE env vs)[i]? = env[i]?
  | [], _ => rfl
  | v :: vs, h => by
    unfold wipeE
    rw [List.mem_cons, not_or] at h
    rw [get_set_ne (Ne.symm h.1)]
    exact wipeE_out h.2
theorem wipeE_in {env : En} {i : Nat} {s : Sl} : ∀ {vs : List Nat}, i ∈ vs → (wipeE env vs)[i]? = some s → s = .non
  | [], h, _ => by cases h
  | v :: vs, h, e => by
    unfold wipeE at e
    by_cases hv : v = i
    · subst hv
      obtain ⟨h1, _⟩ := List.getElem?_eq_some_iff.mp e
      rw [List.length_set] at h1
      rw [List.getElem?_set_self h1] at e
      exact (Option.some.inj e).symm
    · rw [get_set_ne hv] at e
      rcases List.mem_cons.mp h with z | z
      · exact absurd z.symm hv
      · exact wipeE_in z e
theorem backE_len (env e' : En) : ∀ vs : List Nat, (backE env e' vs).length = e'.length
  | [] => rfl
  | v :: vs => by unfold backE; rw [List.length_set, backE_len env e' vs]
theorem backE_out {env e' : En} {i : Nat} : ∀ {vs : List Nat}, i ∉ vs → (backE env e' vs)[i]? = e'[i]?
  | [], _ => rfl
  | v :: vs, h => by
    unfold backE
    rw [List.mem_cons, not_or] at h
    rw [get_set_ne (Ne.symm h.1)]
    exact backE_out h.2
theorem backE_in {env e' : En} {i : Nat} {s : Sl} : ∀ {vs : List Nat}, i ∈ vs → (backE env e' vs)[i]? = some s → s = env.getD i .non
  | [], h, _ => by cases h
  | v :: vs, h, e => by
    unfold backE at e
    by_cases hv : v = i
    · subst hv
      obtain ⟨h1, _⟩ := List.getElem?_eq_some_iff.mp e
      rw [List.length_set] at h1
      rw [List.getElem?_set_self h1] at e
      exact (Option.some.inj e).symm
    · rw [get_set_ne hv] at e
      rcases List.mem_cons.mp h with z | z
      · exact absurd z.symm hv
      · exact backE_in z e
section
variable {g : Gh} {G H : Hp} {σ : L2.St} {env : En}
theorem SlOk.slot {σ' : L2.St} {i : Nat} {s : Sl} (h : σ'[i]? = σ[i]?) (q : SlOk g G H σ i s) : SlOk g G H σ' i s := by
  cases s with
  | non => trivial
  | val d => obtain ⟨v, q1, q2⟩ := q; exact ⟨v, h.trans q1, q2⟩
  | own es => obtain ⟨b, us, q1, q2⟩ := q; exact ⟨b, us, h.trans q1, q2⟩
  | par es => obtain ⟨b, us, q1, q2⟩ := q; exact ⟨b, us, h.trans q1, q2⟩
theorem At.get {i : Nat} {a : Addr} (h : At env σ i a) : ∃ s, env[i]? = some s ∧ s ≠ .non ∧ ∀ d, s ≠ .val d := by
  have h1 := h.1
  unfold TD.lent at h1
  split at h1
  · rename_i ds q; exact ⟨_, q, by simp, by simp⟩
  · rename_i ds q; exact ⟨_, q, by simp, by simp⟩
  · cases h1
theorem At.slot {env' : En} {σ' : L2.St} {i : Nat} {a : Addr} (he : env'[i]? = env[i]?) (hs : σ'[i]? = σ[i]?) (h : At env' σ' i a) : At env σ i a := by
  refine ⟨?_, hs ▸ h.2⟩
  have h1 := h.1
  unfold TD.lent at h1 ⊢
  rwa [he] at h1
theorem Rl.wipe (R : Rl g G H σ env) (vs : List Nat) : Rl g G H (L2.wipe σ vs) (wipeE env vs) := by
  have atS : ∀ j a, At (wipeE env vs) (L2.wipe σ vs) j a → At env σ j a := fun j a p => by
    by_cases hj : j ∈ vs
    · obtain ⟨s, q1, q2, _⟩ := p.get
      exact (q2 (wipeE_in hj q1)).elim
    · exact p.slot (wipeE_out hj) (wipe_out hj)
  refine ⟨by rw [wipeE_len, wipe_length]; exact R.len, R.view, R.frame, R.fdom, R.tabs, fun i s e => ?_, fun i j a p q => R.apart i j a (atS i a p) (atS j a q)⟩
  by_cases hi : i ∈ vs
  · rw [wipeE_in hi e]
    trivial
  · rw [wipeE_out hi] at e
    exact (R.sl i s e).slot (wipe_out hi)
theorem noneLent_in {vs : List Nat} (h : noneLent env vs = true) {i : Nat} (hi : i ∈ vs) : ∃ s, env[i]? = some s ∧ (∀ ds, s ≠ .own ds) ∧ ∀ ds, s ≠ .par ds := by
  have q := List.all_eq_true.mp h i hi
  split at q
  · cases q
  · cases q
  · rename_i s n1 n2 e
    exact ⟨s, e, fun ds z => n1 ds (by rw [← z]), fun ds z => n2 ds (by rw [← z])⟩
  · cases q
theorem Rl.unwipe {G' H' : Hp} {ef : En} {vs : List Nat} (R : Rl g G H σ env) (hn : noneLent env vs = true) (R' : Rl g G' H' (L2.wipe σ vs) ef) (s : Sub G G') : Rl g G' H' σ (backE env ef vs) := by
  have get : ∀ i t, i ∈ vs → (backE env ef vs)[i]? = some t → env[i]? = some t ∧ (∀ ds, t ≠ .own ds) ∧ ∀ ds, t ≠ .par ds := fun i t hi e => by
    obtain ⟨u, e1, n1, n2⟩ := noneLent_in hn hi
    have e2 := backE_in hi e
    have e3 : env.getD i .non = u := by rw [List.getD_eq_getElem?_getD, e1]; rfl
    rw [e2, e3]
    exact ⟨e1, n1, n2⟩
  have atS : ∀ j a, At (backE env ef vs) σ j a → At ef (L2.wipe σ vs) j a := fun j a p => by
    by_cases hj : j ∈ vs
    · obtain ⟨t, q1, q2, q3⟩ := p.get
      obtain ⟨_, n1, n2⟩ := get j t hj q1
      cases t with
      | non => exact (q2 rfl).elim
      | val d => exact (q3 d rfl).elim
      | own ds => exact (n1 ds rfl).elim
      | par ds => exact (n2 ds rfl).elim
    · exact p.slot (backE_out hj) (wipe_out hj).symm
  refine ⟨by rw [backE_len, R'.len, wipe_length], R'.view, R'.frame, R'.fdom, R'.tabs, fun i t e => ?_, fun i j a p q => R'.apart i j a (atS i a p) (atS j a q)⟩
  by_cases hi : i ∈ vs
  · obtain ⟨e1, n1, n2⟩ := get i t hi e
    have q := R.sl i t e1
    cases t with
    | non => trivial
    | val d => obtain ⟨v, q1, q2⟩ := q; exact ⟨v, q1, q2.mono s⟩
    | own ds => exact (n1 ds rfl).elim
    | par ds => exact (n2 ds rfl).elim
  · rw [backE_out hi] at e
    exact (R'.sl i t e).slot (wipe_out hi).symm

/-! ### a list that is being made -/
abbrev Gh.with (g : Gh) (F : Hp) : Gh := ⟨g.K, g.T, g.B, F, g.cl⟩
theorem tabs_upd {T : List (Addr × Str)} {H : Hp} {a : Addr} {xs : List V} {o : HO} (h : LamX.Tabs T H) (ha : H a = some (.lst xs)) : LamX.Tabs T (upd H a o) := fun p hp => by
  obtain ⟨ps, t1, t2, t3⟩ := h p hp
  have hb : p.1 ≠ a := fun z => by rw [z, ha] at t1; cases t1
  refine ⟨ps, by rw [upd_ne hb]; exact t1, t2, fun pos cv hc => ?_⟩
  obtain ⟨c, c1, c2⟩ := t3 pos cv hc
  have hb2 : c ≠ a := fun z => by rw [z, ha] at c2; cases c2
  exact ⟨c, c1, by rw [upd_ne hb2]; exact c2⟩
theorem Rl.noF (R : Rl g G H σ env) {b : Addr} (h : H b = none) : g.F b = none := by
  cases q : g.F b with
  | none => rfl
  | some o =>
    obtain ⟨⟨u, e⟩, _⟩ := R.fdom b o q
    rw [h] at e
    cases e
theorem Rl.noAt (R : Rl g G H σ env) {b : Addr} (h : H b = none) (j : Nat) : ¬ At env σ j b := fun p => by
  obtain ⟨s, q1, q2, q3⟩ := p.get
  have hp := p.2
  have q := R.sl j s q1
  cases s with
  | non => exact q2 rfl
  | val d => exact q3 d rfl
  | own ds => obtain ⟨c, us, w1, w2, _⟩ := q; rw [hp] at w1; cases w1; rw [h] at w2; cases w2
  | par ds => obtain ⟨c, us, w1, w2, _⟩ := q; rw [hp] at w1; cases w1; rw [h] at w2; cases w2
/-- a new object is put into the frame -/
theorem Rl.frameIn {p : Addr} {xs : List V} (R : Rl g G H σ env) (h : H p = none) : Rl (g.with (upd g.F p (.lst xs))) G (upd H p (.lst xs)) σ env := by
  have R2 := R.grow (Grow.junk (o := .lst xs) R.view h)
  have hG := R.view.none h
  have sl : ∀ i s, SlOk g G (upd H p (.lst xs)) σ i s → (∀ a, g.F a = none → H a ≠ none → upd g.F p (.lst xs) a = none) → (∀ a, At env σ i a → H a ≠ none) → env[i]? = some s → SlOk (g.with (upd g.F p (.lst xs))) G (upd H p (.lst xs)) σ i s := fun i s q f n e => by
    cases s with
    | non => trivial
    | val d => exact q
    | own es => obtain ⟨a, us, q1, q2, q3, q4, q5⟩ := q; exact ⟨a, us, q1, q2, q3, f a q4 (n a ⟨by rw [lent_iff.mpr (.inl e)]; rfl, q1⟩), q5⟩
    | par es => obtain ⟨a, us, q1, q2, q3, q4, q5⟩ := q; exact ⟨a, us, q1, q2, q3, f a q4 (n a ⟨by rw [lent_iff.mpr (.inr e)]; rfl, q1⟩), q5⟩
  refine ⟨R.len, R2.view, fun b o e n => ?_, fun b o e => ?_, R2.tabs, fun i s e => sl i s (R2.sl i s e) (fun a f n => ?_) (fun a p n => R.noAt n i p) e, R.apart⟩
  · by_cases hb : b = p
    · subst hb
      have e2 : upd g.F b (.lst xs) b = some o := e
      rw [upd_same] at e2
      cases e2
      exact upd_same
    · have e2 : upd g.F p (.lst xs) b = some o := e
      rw [upd_ne hb] at e2
      exact R2.frame b o e2 n
  · by_cases hb : b = p
    · subst hb
      exact ⟨⟨_, upd_same⟩, hG⟩
    · have e2 : upd g.F p (.lst xs) b = some o := e
      rw [upd_ne hb] at e2
      exact R2.fdom b o e2
  · have hb : a ≠ p := fun z => n (by rw [z]; exact h)
    rw [upd_ne hb]
    exact f
/-- the list in the frame is another -/
theorem Rl.reframe {F : Hp} {p : Addr} {xs ys : List V} (R : Rl (g.with (upd F p (.lst xs))) G H σ env) : Rl (g.with (upd F p (.lst ys))) G (upd H p (.lst ys)) σ env := by
  have hH : H p = some (.lst xs) := R.frame p _ (show upd F p (.lst xs) p = _ from upd_same) (by simp)
  have hG : G p = none := (R.fdom p _ (show upd F p (.lst xs) p = _ from upd_same)).2
  have ne : ∀ a, upd F p (.lst xs) a = none → a ≠ p := fun a h z => by rw [z, upd_same] at h; cases h
  refine ⟨R.len, ⟨fun b o e => ?_, R.view.vw⟩, fun b o e n => ?_, fun b o e => ?_, tabs_upd R.tabs hH, fun i s e => ?_, R.apart⟩
  · have hb : b ≠ p := fun z => by rw [z, hG] at e; cases e
    rw [upd_ne hb]
    exact R.view.sub _ _ e
  · by_cases hb : b = p
    · subst hb
      have e2 : upd F b (.lst ys) b = some o := e
      rw [upd_same] at e2
      cases e2
      exact upd_same
    · have e2 : upd F p (.lst ys) b = some o := e
      rw [upd_ne hb] at e2 ⊢
      exact R.frame b o (show upd F p (.lst xs) b = some o by rw [upd_ne hb]; exact e2) n
  · by_cases hb : b = p
    · subst hb
      exact ⟨⟨_, upd_same⟩, hG⟩
    · have e2 : upd F p (.lst ys) b = some o := e
      rw [upd_ne hb] at e2
      rw [upd_ne hb]
      exact R.fdom b o (show upd F p (.lst xs) b = some o by rw [upd_ne hb]; exact e2)
  · have q := R.sl i s e
    cases s with
    | non => trivial
    | val d => exact q
    | own es =>
      obtain ⟨a, us, q1, q2, q3, q4, q5⟩ := q
      have hb := ne a q4
      refine ⟨a, us, q1, by rw [upd_ne hb]; exact q2, q3, ?_, q5⟩
      have q4' : upd F p (.lst xs) a = none := q4
      show upd F p (.lst ys) a = none
      rw [upd_ne hb] at q4' ⊢
      exact q4'
    | par es =>
      obtain ⟨a, us, q1, q2, q3, q4, q5⟩ := q
      have hb := ne a q4
      refine ⟨a, us, q1, by rw [upd_ne hb]; exact q2, q3, ?_, q5⟩
      have q4' : upd F p (.lst xs) a = none := q4
      show upd F p (.lst ys) a = none
      rw [upd_ne hb] at q4' ⊢
      exact q4'
/-- the list is taken into the view -/
theorem Rl.unframe {p : Addr} {xs : List V} (R : Rl (g.with (upd g.F p (.lst xs))) G H σ env) (hF : g.F p = none) (hl : xs.length ≤ sizeLine) : Rl g (upd G p (.lst xs)) H σ env ∧ Sub G (upd G p (.lst xs)) := by
  have hH : H p = some (.lst xs) := R.frame p _ (show upd g.F p (.lst xs) p = _ from upd_same) (by simp)
  have hG : G p = none := (R.fdom p _ (show upd g.F p (.lst xs) p = _ from upd_same)).2
  have ne : ∀ a, upd g.F p (.lst xs) a = none → a ≠ p := fun a h z => by rw [z, upd_same] at h; cases h
  have sub : Sub G (upd G p (.lst xs)) := sub_upd hG
  have nF : ∀ b o, g.F b = some o → b ≠ p := fun b o e z => by rw [z, hF] at e; cases e
  refine ⟨⟨R.len, ⟨fun b o e => ?_, fun b o e => ?_⟩, fun b o e n => R.frame b o (show upd g.F p (.lst xs) b = some o by rw [upd_ne (nF b o e)]; exact e) n, fun b o e => ?_, R.tabs, fun i s e => ?_, R.apart⟩, sub⟩
  · by_cases hb : b = p
    · rw [hb, upd_same] at e; cases e; rw [hb]; exact hH
    · rw [upd_ne hb] at e; exact R.view.sub _ _ e
  · by_cases hb : b = p
    · rw [hb, upd_same] at e; cases e; exact hl
    · rw [upd_ne hb] at e; exact R.view.vw _ _ e
  · obtain ⟨h1, h2⟩ := R.fdom b o (show upd g.F p (.lst xs) b = some o by rw [upd_ne (nF b o e)]; exact e)
    refine ⟨h1, ?_⟩
    rw [upd_ne (nF b o e)]
    exact h2
  · have q := R.sl i s e
    cases s with
    | non => trivial
    | val d => obtain ⟨v, q1, q2⟩ := q; exact ⟨v, q1, q2.mono sub⟩
    | own es =>
      obtain ⟨a, us, q1, q2, q3, q4, q5, q6⟩ := q
      have hb := ne a q4
      have q4' : upd g.F p (.lst xs) a = none := q4
      rw [upd_ne hb] at q4'
      exact ⟨a, us, q1, q2, by rw [upd_ne hb]; exact q3, q4', q5, q6.mono sub⟩
    | par es =>
      obtain ⟨a, us, q1, q2, q3, q4, q5, q6, q7⟩ := q
      have hb := ne a q4
      have q4' : upd g.F p (.lst xs) a = none := q4
      rw [upd_ne hb] at q4'
      exact ⟨a, us, q1, q2, by rw [upd_ne hb]; exact q3, q4', q5, q6.mono sub, q7⟩
end
end TD

set_option Elab.async false
set_option linter.all false
set_option maxRecDepth 100000
/-! TD10: comprehensions; all expressions. -/
namespace TD
open PySem PySem.Spec PyProof.Rows L2

theorem bnd_inv {α β : Type} {m : M α} {f : α → M β} {env : En} {b : β} {e : En} (h : bnd m f env = .ok b e) : ∃ a e1, m env = .ok a e1 ∧ f a e1 = .ok b e := by
  unfold bnd at h
  cases q : m env with
  | ok a e1 => rw [q] at h; exact ⟨a, e1, rfl, h⟩
  | exc c e1 => rw [q] at h; cases h
  | bad => rw [q] at h; cases h
theorem compL_cons {vs : List Nat} {asg : D → M Unit} {test : M Bool} {elt : M D} {d : D} {r rest : List D} {env ef : En} (h : compL vs asg test elt (d :: r) env = .ok rest ef) :
    ∃ e1 c e2, asg d env = .ok () e1 ∧ test e1 = .ok c e2 ∧ ((c = true ∧ ∃ y e3 rest', elt e2 = .ok y e3 ∧ compL vs asg test elt r (wipeE e3 vs) = .ok rest' ef ∧ rest = y :: rest') ∨ (c = false ∧ compL vs asg test elt r (wipeE e2 vs) = .ok rest ef)) := by
  unfold compL at h
  obtain ⟨_, e1, h1, h⟩ := bnd_inv h
  obtain ⟨c, e2, h2, h⟩ := bnd_inv h
  refine ⟨e1, c, e2, h1, h2, ?_⟩
  cases c with
  | true =>
    rw [if_pos rfl] at h
    obtain ⟨y, e3, h3, h⟩ := bnd_inv h
    obtain ⟨_, e4, h4, h⟩ := bnd_inv h
    cases h4
    obtain ⟨ys, e5, h5, h⟩ := bnd_inv h
    cases h
    exact .inl ⟨rfl, y, e3, ys, h3, h5, rfl⟩
  | false =>
    rw [if_neg (by simp)] at h
    obtain ⟨_, e4, h4, h⟩ := bnd_inv h
    cases h4
    exact .inr ⟨rfl, h⟩

/-- what is shown of parts, in all contexts -/
def Parts (C : Cst) (x : Fx) (k : Nat) (f : Sc → Expr → M D) (t : Sc → Expr → M Bool) : Prop := ∀ (g : Gh) (W : WX) (S : Sc) (X : Cx), XOk C x g W k S X → (∀ e, PE X e (rdE g W (f S e))) ∧ ∀ e, PT X e (rdT g W (t S e))
abbrev W0 : WX := fun _ _ _ _ => False
section
variable {C : Cst} {x : Fx} {g : Gh} {W : WX} {k : Nat} {S : Sc} {X : Cx}
theorem XOk.with {F : Hp} (o : XOk C x g W k S X) : XOk C x (g.with F) W k S X := ⟨o.on, o.gK, o.pr, o.N, o.nd, o.sc, o.fn, o.tk, o.lm⟩
theorem XOk.blk {scope : Scope} {s : Shared} {H : Hp} {Ca : Addr} {cl : List (Str × Addr)} {fp : List Addr} (o : XOk C x g W k S X) : XOk C x g W0 k (setVis S scope) (X.blk s H scope (compEnvC scope cl Ca X.env) fp) := by
  refine ⟨⟨o.on.P, o.on.w, o.on.K, o.on.mg, o.on.base, o.on.calm, o.on.room⟩, o.gK, o.pr, o.N, o.nd, ?_, fun y h => ?_, takesN0, o.lm⟩
  · show relS scope X.env.scope = relS scope S.vis
    rw [o.sc]
  · have h : locB scope y = true := h
    unfold locB at h
    split at h
    · rename_i q
      exact .inr (lookup_relS_keep (by simp) q)
    · rename_i q
      refine .inl ?_
      show (scope.names.lookup y == some .cell) = true
      rw [q]
      rfl
    · cases h
theorem pts_testsE {t : Expr → M Bool} (ht : ∀ e, PT X e (rdT g W (t e))) : ∀ ifs, PTs X ifs (rdT g W (testsE t ifs))
  | [] => ⟨fun pins s σ H Q I h => pts_nil.run pins s σ H Q I (by
      obtain ⟨G, env, R, go⟩ := h
      exact go G H R (Same.refl _))⟩
  | [c] => pts_one (ht c)
  | _ :: _ :: _ => ⟨fun pins s σ H Q I h => by obtain ⟨_, _, _, q⟩ := h; exact q.elim⟩

/-- a comprehension's parts and reading -/
structure CompOk (C : Cst) (x : Fx) (g : Gh) (W : WX) (S : Sc) (X : Cx) (f : Sc → Expr → M D) (t : Sc → Expr → M Bool) (elt tg it : Expr) (ifs : List Expr) (scope : Scope) (gT : TG) (TT' : TT) (EE : TE) : Prop where
  ok : BlkOk X.N X.env.scope scope (ownOf C scope)
  pi : PI X tg it (rdI g W (iterE C S (f S) tg it))
  hg : ∀ (s : Shared) (H : Hp) (Ca : Addr) (cl : List (Str × Addr)) (fp : List Addr), PG (X.blk s H scope (compEnvC scope cl Ca X.env) fp) tg gT
  ht : ∀ (s : Shared) (H : Hp) (Ca : Addr) (cl : List (Str × Addr)) (fp : List Addr), PTs (X.blk s H scope (compEnvC scope cl Ca X.env) fp) ifs TT'
  he : ∀ (s : Shared) (H : Hp) (Ca : Addr) (cl : List (Str × Addr)) (fp : List Addr), PE (X.blk s H scope (compEnvC scope cl Ca X.env) fp) elt EE
  rd : ∀ σ H Q, rdE g W (bnd (iterE C S (f S) tg it) fun items =>
          bnd (inner ((ownOf C scope).map (·.2)) (compL ((ownOf C scope).map (·.2)) (asgE C (setVis S scope) 3 tg) (testsE (t (setVis S scope)) ifs) (f (setVis S scope) elt) items)) fun ds => ret (.list ds)) σ H Q →
      tLc (rdI g W (iterE C S (f S) tg it)) gT TT' EE ((ownOf C scope).map (·.2)) σ H Q
theorem compOk {f : Sc → Expr → M D} {t : Sc → Expr → M Bool} {elt tg it : Expr} {ifs : List Expr} {scope : Scope} (o : XOk C x g W k S X) (ih : Parts C x k f t)
    (hb : blkC C.N S.vis scope (ownOf C scope) = true) (hts : ((tslots C 3 tg).all fun i => ((ownOf C scope).map (·.2)).contains i) = true) :
    ∃ gT TT' EE, CompOk C x g W S X f t elt tg it ifs scope gT TT' EE := by
  have ok : BlkOk X.N X.env.scope scope (ownOf C scope) := blkOk_by (by rw [o.N, o.sc]; exact hb)
  have hgT : ∀ (s : Shared) (H : Hp) (Ca : Addr) (cl : List (Str × Addr)) (fp : List Addr), PG (X.blk s H scope (compEnvC scope cl Ca X.env) fp) tg (fun v σ H Q => ∃ F, rdG (g.with F) (asgE C (setVis S scope) 3 tg) (tslots C 3 tg) v σ H Q) :=
    fun s H Ca cl fp => ⟨fun pins s' σ H' v u Q I r ⟨F, h⟩ => (pg_asgE (o.blk.with (F := F)) 3 tg).run pins s' σ H' v u Q I r h⟩
  have hTT : ∀ (s : Shared) (H : Hp) (Ca : Addr) (cl : List (Str × Addr)) (fp : List Addr), PTs (X.blk s H scope (compEnvC scope cl Ca X.env) fp) ifs (fun σ H Q => ∃ F, rdT (g.with F) W0 (testsE (t (setVis S scope)) ifs) σ H Q) :=
    fun s H Ca cl fp => ⟨fun pins s' σ H' Q I ⟨F, h⟩ => (pts_testsE (ih _ _ _ _ (o.blk.with (F := F))).2 ifs).run pins s' σ H' Q I h⟩
  have hEE : ∀ (s : Shared) (H : Hp) (Ca : Addr) (cl : List (Str × Addr)) (fp : List Addr), PE (X.blk s H scope (compEnvC scope cl Ca X.env) fp) elt (fun σ H Q => ∃ F, rdE (g.with F) W0 (f (setVis S scope) elt) σ H Q) :=
    fun s H Ca cl fp => ⟨fun pins s' σ H' Q I ⟨F, h⟩ => ((ih _ _ _ _ (o.blk.with (F := F))).1 elt).run pins s' σ H' Q I h⟩
  refine ⟨_, _, _, ok, pi_iterE (tg := tg) (it := it) o (ih g W S X o).1, hgT, hTT, hEE, fun σ H Q ⟨G, env, R, go⟩ => ?_⟩
  generalize hvs : (ownOf C scope).map (·.2) = vs at *
  refine ⟨G, env, R, go.bnd.imp fun items e1 G1 H1 R1 S1 go1 J wd hlen D hD => ?_⟩
  generalize hA : asgE C (setVis S scope) 3 tg = asg at *
  generalize hT : testsE (t (setVis S scope)) ifs = test at *
  generalize hE : f (setVis S scope) elt = el at *
  have go2 := go1.bnd
  unfold inner at go2
  by_cases hnl : noneLent e1 vs = true
  · rw [if_pos hnl] at go2
    cases hcm : compL vs asg test el items (wipeE e1 vs) with
    | bad => rw [hcm] at go2; exact go2.elim
    | exc c e2 => rw [hcm] at go2; exact go2.elim
    | ok total ef =>
      rw [hcm] at go2
      have fin : ∀ G' H', Rl g G' H' σ (backE e1 ef vs) → Sub G1 G' → ∀ v, Rp g.K G' v (.list total) → Q v H' := fun G' H' R' S' => (go2 G' H' R' S') G' H' R' (Same.refl _)
      obtain ⟨Y, wk, yok⟩ := wd
      have hF0 : g.F D = none := R1.noF hD
      refine lc_it (g := fun v σ H Q => ∃ F, rdG (g.with F) asg (tslots C 3 tg) v σ H Q) (tt := fun σ H Q => ∃ F, rdT (g.with F) W0 test σ H Q) (te := fun σ H Q => ∃ F, rdE (g.with F) W0 el σ H Q) (vs := vs) (σ := σ) (Qd := fun H => Q (.ref D) H) wk (fun i H => ∃ Gi ei acc dn rest, Rl (g.with (upd g.F D (.lst acc))) Gi H (wipe σ vs) ei ∧ Sub G1 Gi ∧ RpAll g.K Gi acc dn ∧ acc.length ≤ i ∧ compL vs asg test el (items.drop i) ei = .ok rest ef ∧ dn ++ rest = total)
        ⟨G1, wipeE e1 vs, [], [], total, (R1.wipe vs).frameIn hD, Same.refl _, .nil, Nat.le_refl _, hcm, rfl⟩ (fun i H _ ⟨Gi, ei, acc, dn, rest, Ri, Si, _⟩ => Si.trans Ri.view.sub) (fun i v H H' hi ⟨Gi, ei, acc, dn, rest, Ri, Si, ra, hl, hc, ht⟩ y => ?_) (fun H ⟨Gi, ei, acc, dn, rest, Ri, Si, ra, hl, hc, ht⟩ => ?_)
      · have hd : items[i]? = some items[i] := List.getElem?_eq_getElem hi
        rw [List.drop_eq_getElem_cons hi] at hc
        obtain ⟨G2, gr, rv⟩ := yok i H v H' Gi _ Si Ri.view y hd
        obtain ⟨e2, c, e3, h1, h2, h3⟩ := compL_cons hc
        refine ⟨upd g.F D (.lst acc), G2, ei, _, e2, Ri.grow gr, rv, h1, fun σ2 R2 l2 n2 => ⟨?_, upd g.F D (.lst acc), G2, e2, R2, Go.of_ok h2 fun G3 H3 R3 S3 => ?_⟩⟩
        · refine List.ext_getElem? fun j => ?_
          by_cases hj : j ∈ vs
          · have z : ∀ τ : L2.St, τ.length = σ.length → (wipe τ vs)[j]? = if j < σ.length then some none else none := fun τ hτ => by
              by_cases hjl : j < σ.length
              · rw [if_pos hjl]
                have hjl2 : j < (wipe τ vs).length := by rw [wipe_length, hτ]; exact hjl
                cases q : (wipe τ vs)[j]? with
                | none => rw [List.getElem?_eq_none_iff] at q; omega
                | some z =>
                  cases z with
                  | none => rfl
                  | some u => exact absurd hj (wipe_some q).2
              · rw [if_neg hjl]
                exact List.getElem?_eq_none (by rw [wipe_length, hτ]; omega)
            rw [z σ2 (l2.trans (wipe_length σ vs)), z σ rfl]
          · rw [wipe_out hj, n2 j fun hm => hj ?_]
            have q := List.all_eq_true.mp hts j hm
            simpa using q
        · have out : ∀ {Gz Hz : Hp} {σz : L2.St} {ez : En}, Rl (g.with (upd g.F D (.lst acc))) Gz Hz σz ez → Hz D = some (.lst acc) := fun Rz => Rz.frame D _ (show upd g.F D (.lst acc) D = _ from upd_same) (by simp)
          have hw : wipe σ2 vs = wipe σ vs := by
            refine List.ext_getElem? fun j => ?_
            by_cases hj : j ∈ vs
            · have z : ∀ τ : L2.St, τ.length = σ.length → (wipe τ vs)[j]? = if j < σ.length then some none else none := fun τ hτ => by
                by_cases hjl : j < σ.length
                · rw [if_pos hjl]
                  have hjl2 : j < (wipe τ vs).length := by rw [wipe_length, hτ]; exact hjl
                  cases q : (wipe τ vs)[j]? with
                  | none => rw [List.getElem?_eq_none_iff] at q; omega
                  | some z =>
                    cases z with
                    | none => rfl
                    | some u => exact absurd hj (wipe_some q).2
                · rw [if_neg hjl]
                  exact List.getElem?_eq_none (by rw [wipe_length, hτ]; omega)
              rw [z σ2 (l2.trans (wipe_length σ vs)), z σ rfl]
            · rw [wipe_out hj, n2 j fun hm => hj ?_]
              have q := List.all_eq_true.mp hts j hm
              simpa using q
          rcases h3 with ⟨rfl, yv, e4, rest', h4, h5, rfl⟩ | ⟨rfl, h5⟩
          · refine iteT ⟨upd g.F D (.lst acc), G3, e3, R3, Go.of_ok h4 fun G4 H4 R4 S4 u ru => ⟨acc, out R4, by omega, ?_⟩⟩
            have R5 := R4.wipe vs
            rw [hw] at R5
            refine ⟨G4, wipeE e4 vs, acc ++ [u], dn ++ [yv], rest', R5.reframe, ((Si.trans gr.sub).trans S3).trans S4, (((ra.mono gr.sub).mono S3).mono S4).append (.cons ru .nil), by rw [List.length_append]; show acc.length + 1 ≤ i + 1; omega, h5, by rw [← ht]; simp⟩
          · refine iteF ?_
            have R5 := R3.wipe vs
            rw [hw] at R5
            exact ⟨G3, wipeE e3 vs, acc, dn, rest, R5, (Si.trans gr.sub).trans S3, (ra.mono gr.sub).mono S3, by omega, h5, ht⟩
      · rw [List.drop_eq_nil_of_le (Nat.le_refl _)] at hc
        have hc2 : (Res.ok [] ei : Res (List TD.D)) = .ok rest ef := hc
        cases hc2
        rw [List.append_nil] at ht
        subst ht
        obtain ⟨R6, S6⟩ := Ri.unframe hF0 (by omega)
        exact fin _ H (R1.unwipe hnl R6 (Si.trans S6)) (Si.trans S6) _ (.lst upd_same (ra.mono S6))
  · rw [if_neg hnl] at go2
    exact go2.elim
theorem pe_compE {f : Sc → Expr → M D} {t : Sc → Expr → M Bool} {elt tg it : Expr} {ifs : List Expr} {scope : Scope} {pos : Pos} (o : XOk C x g W k S X) (ih : Parts C x k f t)
    (hb : blkC C.N S.vis scope (ownOf C scope) = true) (hts : ((tslots C 3 tg).all fun i => ((ownOf C scope).map (·.2)).contains i) = true) (hset : isSet it = false) :
    PE X (.ListComp elt [⟨tg, it, ifs, 0⟩] scope pos) (rdE g W (bnd (iterE C S (f S) tg it) fun items =>
          bnd (inner ((ownOf C scope).map (·.2)) (compL ((ownOf C scope).map (·.2)) (asgE C (setVis S scope) 3 tg) (testsE (t (setVis S scope)) ifs) (f (setVis S scope) elt) items)) fun ds => ret (.list ds))) := by
  obtain ⟨gT, TT', EE, c⟩ := compOk (elt := elt) (tg := tg) (it := it) (ifs := ifs) (scope := scope) o ih hb hts
  exact PE.of (pe_lc o.on.calm (by rw [o.N]; exact o.nd) c.pi c.ok c.hg c.ht c.he (notSet_fold hset)) c.rd
end
end TD

set_option Elab.async false
set_option linter.all false
set_option maxRecDepth 100000
/-! TD10b: a lambda told, by the evaluator. -/
namespace TD
open PySem PySem.Spec PyProof.Rows L2
theorem Rl.extN {g : Gh} {G H H1 : Hp} {σ : L2.St} {env : En} (R : Rl g G H σ env) (e : LamX.ExtN H H1) (ex : ∀ b o, H b = some o → ∃ o', H1 b = some o') (T : LamX.Tabs g.T H1) : Rl g G H1 σ env := by
  have lst : ∀ a vs, H a = some (.lst vs) → H1 a = some (.lst vs) := fun a vs h => e a _ h fun ps z => by cases z
  refine ⟨R.len, ⟨fun b o h => e b o (R.view.sub b o h) fun ps z => ?_, R.view.vw⟩, fun b o h n => e b o (R.frame b o h n) n, fun b o h => ?_, T, fun i s h => ?_, R.apart⟩
  · have := R.view.vw b o h
    rw [z] at this
    exact this
  · obtain ⟨⟨o', h1⟩, h2⟩ := R.fdom b o h
    exact ⟨ex b o' h1, h2⟩
  · have q := R.sl i s h
    cases s with
    | non => trivial
    | val d => exact q
    | own ds => obtain ⟨a, vs, h1, h2, h3⟩ := q; exact ⟨a, vs, h1, lst a vs h2, h3⟩
    | par ds => obtain ⟨a, vs, h1, h2, h3⟩ := q; exact ⟨a, vs, h1, lst a vs h2, h3⟩
theorem noArgs_def {a : Arguments} (h : noArgs a = true) (env : Env) : defaultsOf a env = ([], []) := by
  obtain ⟨a1, a2, a3, a4, a5, a6, a7⟩ := a
  unfold noArgs at h
  simp only [Bool.and_eq_true, List.isEmpty_iff, Option.isNone_iff_eq_none] at h
  obtain ⟨⟨⟨⟨⟨⟨h1, h2⟩, h3⟩, h4⟩, h5⟩, h6⟩, h7⟩ := h
  subst h1 h2 h3 h4 h5 h6 h7
  rfl
theorem noArgs_bind {a : Arguments} (h : noArgs a = true) (q : Str) (body : Expr) (scope : Scope) (cl : List (Str × Addr)) (pm cv ctv : Value) : bindArgs (PySem.W.kla_fn "<lambda>" q a body scope cl pm cv ctv) ⟨[], []⟩ = pure [] := by
  obtain ⟨a1, a2, a3, a4, a5, a6, a7⟩ := a
  unfold noArgs at h
  simp only [Bool.and_eq_true, List.isEmpty_iff, Option.isNone_iff_eq_none] at h
  obtain ⟨⟨⟨⟨⟨⟨h1, h2⟩, h3⟩, h4⟩, h5⟩, h6⟩, h7⟩ := h
  subst h1 h2 h3 h4 h5 h6 h7
  rfl
section
variable {C : Cst} {x : Fx} {g : Gh} {W : WX} {k : Nat} {S : Sc} {X : Cx}
theorem pe_toldE {y : Str} {args : List Expr} {p pos : Pos} (o : XOk C x g W k S X) (hy : C.told y = true) : PE X (.Call (.Name y p) args [] pos) (rdE g W (toldE C S y args)) := by
  have hp := o.prX.told y hy
  unfold toldE
  split
  · rename_i ps body scope lp
    split
    · rename_i hc
      simp only [Bool.and_eq_true] at hc
      obtain ⟨⟨hna, hls⟩, hgl⟩ := hc
      obtain ⟨rfl, TF, htr, hl⟩ := hp
      rcases hl with hb | ⟨k', rfl, hS⟩
      · refine PE.of (pe_bad (g := g) (W := W)) fun σ H Q ⟨G, env, R, go⟩ => ?_
        rw [hb] at go
        exact go.elim
      · obtain ⟨tg, ft, CS, fdg, fdt, Pt, P, st, cs, sc, pt, pr, h1, h2, h3, h4, h5, h6, h7⟩ := TF
        obtain ⟨cd, tbl, hcd, TB, hm, hu⟩ := o.lm ⟨_, hy⟩
        have eK := o.on.K
        have eM := o.on.mg
        have eB := o.on.base
        have L : LamX.LamS X.env.scope scope := by rw [o.sc]; exact LamX.lamS_by hls
        refine PE.of (pe_told (T := g.T) (cl := g.cl) (k := k') (lpos := lp) (t := fun E => rdE g (fun cls d _ H => E cls d H) (C.lam ⟨scope, scope⟩ body)) (by rw [eK]; exact h1) (by rw [eK]; exact h2) (by rw [eK, eM]; exact h3) (o.gl hgl) (by rw [eM]; exact h4) (by rw [eM]; exact h5) (by rw [eM]; exact h6) (by rw [eK]; exact h7)
          (by rw [eB, eM]; exact TB) hcd hm hu o.on.room L (noArgs_def hna _) (fun q cl pm cv ctv => noArgs_bind hna q body scope cl pm cv ctv) (fun A outer s H E f c' hr => ?_)) fun σ H Q ⟨G, env, R, go⟩ => ?_
        · refine hS g _ ⟨scope, scope⟩ (lamCxN X A outer s H E scope f c') ⟨o.on.P, o.on.w, o.on.K, o.on.mg, o.on.base, rfl, hr⟩ o.gK rfl rfl o.N o.nd rfl (fun z => ?_) (L2N.takes_of rfl rfl rfl rfl) body
          cases q : locB scope z with
          | false => rfl
          | true =>
            exfalso
            rcases locB_loc q with w | w
            · exact (L.own _ (PySem.mem_of_lookup w)).1 rfl
            · exact (L.own _ (PySem.mem_of_lookup w)).2 rfl
        · refine ⟨R.tabs, fun H1 eN eX T1 => ⟨G, env, R.extN eN eX T1, ?_⟩⟩
          unfold toldM at go
          cases q : C.lam ⟨scope, scope⟩ body env with
          | bad => rw [q] at go; exact go.elim
          | ok d e => rw [q] at go; exact go
          | exc c e =>
            rw [q] at go
            dsimp only at go
            cases qt : C.trm c with
            | none => rw [qt] at go; exact go.elim
            | some d =>
              rw [qt] at go
              obtain ⟨hk, rfl⟩ := htr c d qt
              intro G' H' R' S'
              refine ⟨c, hk, rfl, rfl, fun q H'' s1 n1 e1 => ?_⟩
              have nG : G' q = none := R'.view.none n1
              have gr : Grow G' H' (upd G' q (.tup [.str "refused", .str c])) H'' := by
                refine ⟨sub_upd nG, s1, fun b u h1 h2 => ?_, ⟨fun b u h1 => ?_, fun b u h1 => ?_⟩⟩
                · by_cases hb : b = q
                  · rw [hb]; exact n1
                  · rw [upd_ne hb, h2] at h1; cases h1
                · by_cases hb : b = q
                  · rw [hb, upd_same] at h1; cases h1; rw [hb]; exact e1
                  · rw [upd_ne hb] at h1; exact s1 _ _ (R'.view.sub _ _ h1)
                · by_cases hb : b = q
                  · rw [hb, upd_same] at h1; cases h1; show (2 : Nat) ≤ sizeLine; decide
                  · rw [upd_ne hb] at h1; exact R'.view.vw _ _ h1
              exact go _ _ (R'.grow gr) (S'.trans gr.sub) _ (.tup (.inl (.inl upd_same)) (.cons (.str _) (.cons (.str _) .nil)))
    · exact pe_bad
  · exact pe_bad
end
end TD

set_option Elab.async false
set_option linter.all false
set_option maxRecDepth 100000
/-! TD11: all expressions. -/
namespace TD
open PySem PySem.Spec PyProof.Rows L2
section
variable {C : Cst} {x : Fx} {g : Gh} {W : WX} {k : Nat} {S : Sc} {X : Cx} {f : Sc → Expr → M D} {t : Sc → Expr → M Bool}
theorem bltB_none {y : Str} (h : bltB C S y = true) : gloB S.vis y = true := bltB_glo h
theorem sound_call {fn : Expr} {args : List Expr} {cpos : Pos} (o : XOk C x g W k S X) (ih : Parts C x k f t) : PE X (.Call fn args [] cpos) (rdE g W (stepE C f t S (.Call fn args [] cpos))) := by
  have hf := (ih g W S X o).1
  show PE X _ (rdE g W (if args.any isStar then bad else _))
  split
  · exact pe_bad
  rename_i hst0
  have hst : args.any isStar = false := by simpa using hst0
  clear hst0
  split
  · -- a name
    rename_i y p
    split
    · rename_i hy
      exact pe_toldE o hy
    split
    · rename_i dice n ha
      split
      · rename_i hc
        simp only [Bool.and_eq_true] at hc
        exact pe_callE o hf hc.1.1 hc.1.2 hst ha
      · exact pe_bad
    · split
      · rename_i hb
        have hg := bltB_glo hb
        split
        · rename_i hy
          obtain rfl := beq_iff_eq.mp hy
          split
          · rename_i a T p2
            rw [List.any_cons, Bool.or_eq_false_iff] at hst
            split
            · rename_i hbT
              exact pe_isi o (hf a) hst.1 hg (bltB_glo hbT)
            · exact pe_bad
          · exact pe_bad
        · split
          · rename_i hy
            obtain rfl := beq_iff_eq.mp hy
            split
            · rename_i a
              rw [List.any_cons, Bool.or_eq_false_iff] at hst
              exact pe_lenOwn o hf hst.1 hg
            · exact pe_bad
          · exact pe_bf o hf hg hst
      · exact pe_bad
  · -- a method
    rename_i e m apos
    split
    · exact pe_bad
    · rename_i hc
      rw [Bool.or_eq_true, not_or] at hc
      have h0 : isCall0 e = false := by simpa using hc.1
      have hl : (apos.endLine == cpos.line) = true := by simpa using hc.2
      refine ⟨fun pins s σ H Q I h => ?_⟩
      obtain ⟨G, env, R, go⟩ := h
      dsimp only at go
      split at go
      · rename_i i hi
        exact pe_own o hf hl hst I R hi go
      · exact (pe_mt o hf h0 hl hst).run pins s σ H Q I ⟨G, env, R, go⟩
  · exact pe_bad
theorem pps_cdict : ∀ {ks : List (Option Expr)} {vs : List Expr} {kvs : List (Str × Str)} {pos : Pos}, cdict ks vs = some kvs → PPs X pos ks vs (kvs.map fun p => (tC (.str p.1), tC (.str p.2))) ∧ ks.all (·.isSome) = true ∧ ks.length = vs.length ∧ ks.length = kvs.length
  | [], [], kvs, pos, h => by cases h; exact ⟨pps_nil, rfl, rfl, rfl⟩
  | [], _ :: _, kvs, pos, h => by cases h
  | k :: ks, [], kvs, pos, h => by unfold cdict at h; split at h <;> simp_all
  | k :: ks, v :: vs, kvs, pos, h => by
    unfold cdict at h
    split at h
    · simp_all
    · rename_i a j p ks' b j2 p2 vs' e1 e2
      cases e1
      cases e2
      cases q : cdict ks vs with
      | none => rw [q] at h; cases h
      | some r =>
        rw [q] at h
        cases h
        obtain ⟨h1, h2, h3, h4⟩ := pps_cdict (pos := pos) q
        exact ⟨pps_cons pe_str pe_str h1, by simp [h2], by simp [h3], by simp [h4]⟩
    · cases h
theorem tPairs_const {σ : L2.St} {H : Hp} {Q : List (V × V) → Hp → Prop} : ∀ {kvs : List (Str × Str)}, Q (kvs.map fun p => (V.str p.1, V.str p.2)) H → tPairs (kvs.map fun p => (tC (.str p.1), tC (.str p.2))) σ H Q
  | [], h => h
  | p :: r, h => tPairs_const (kvs := r) (Q := fun ps H3 => Q ((V.str p.1, V.str p.2) :: ps) H3) h
theorem mergeK_nodup : ∀ {more acc : List (Key × V)}, ((acc ++ more).map (·.1)).Nodup → mergeK acc more = acc ++ more
  | [], acc, _ => by simp [mergeK]
  | p :: r, acc, nd => by
    have nd2 : ((acc ++ [p] ++ r).map (·.1)).Nodup := by simpa using nd
    have e : putK acc p.1 p.2 = acc ++ [p] := by
      unfold putK
      rw [if_neg]
      intro h
      rw [List.any_eq_true] at h
      obtain ⟨q, hq, e⟩ := h
      have e : q.1 = p.1 := of_decide_eq_true e
      rw [List.map_append, List.nodup_append] at nd
      exact nd.2.2 q.1 (List.mem_map_of_mem hq) p.1 (by simp) e
    have ih := mergeK_nodup nd2
    unfold mergeK at ih ⊢
    rw [List.foldl_cons, e, ih]
    simp
theorem pe_dictE {ks : List (Option Expr)} {vs : List Expr} {kvs : List (Str × Str)} {pos : Pos} (h : cdict ks vs = some kvs) (h15 : kvs.length ≤ 15) (hne : kvs ≠ []) (nd : (kvs.map (·.1)).Nodup) : PE X (.Dict ks vs pos) (rdE g W (ret (dictD kvs))) := by
  obtain ⟨h1, h2, h3, h4⟩ := pps_cdict (X := X) (pos := pos) h
  refine PE.of (pe_disp h1 h2 h3 (fun z => hne (by rw [z] at h4; exact List.length_eq_zero_iff.mp h4.symm)) (by omega)) fun σ H Q ⟨G, env, R, go⟩ => fun p hp => tPairs_const ?_
  refine ⟨upd_same, kvs.map (fun q => (Sum.inr q.1, V.str q.2)), by rw [List.map_map]; rfl, by rw [List.length_map]; exact h15, ?_⟩
  rw [mergeK_nodup (by
    rw [List.nil_append, List.map_map]
    have e : ((fun x : Key × V => x.1) ∘ fun q : Str × Str => ((Sum.inr q.1 : Key), V.str q.2)) = (Sum.inr ∘ fun q : Str × Str => q.1) := rfl
    rw [e, ← List.map_map]
    exact List.Pairwise.map _ (fun a b hab z => hab (Sum.inr.inj z)) nd), List.nil_append, upd_upd]
  have gr : Grow G H (upd G p (.dK (kvs.map fun q => (Sum.inr q.1, V.str q.2)))) (upd H p (.dK (kvs.map fun q => (Sum.inr q.1, V.str q.2)))) := Grow.fresh R.view hp trivial
  exact go _ _ (R.grow gr) gr.sub _ (.dct upd_same)
theorem sound_E (o : XOk C x g W k S X) (ih : Parts C x k f t) (e : Expr) : PE X e (rdE g W (stepE C f t S e)) := by
  have hf := (ih g W S X o).1
  have ht := (ih g W S X o).2
  cases e with
  | Constant c j pos =>
    cases c with
    | none => exact pe_const pe_non fun _ => .non
    | bool b => exact pe_const pe_bl fun _ => .bl b
    | int i => exact pe_const pe_int fun _ => .int i
    | str z => exact pe_const pe_str fun _ => .str z
    | _ => exact pe_bad
  | Name y pos => exact pe_rdName o
  | BinOp a op b pos => exact pe_binop o (hf a) (hf b)
  | UnaryOp op a pos =>
    cases op with
    | USub => exact pe_neg (hf a)
    | Not => exact pe_notE (hf a)
    | _ => exact pe_bad
  | BoolOp op es pos => exact pe_boolE hf op es
  | Compare a ops bs pos =>
    show PE X _ (rdE g W (match ops, bs with
      | [op], [b] => _
      | [op, op'], [b, c] => _
      | _, _ => _))
    split
    · rename_i op b
      split
      · exact pe_bad
      · rename_i hs
        exact pe_cmp1 o (by simpa using hs) (hf a) (hf b)
    · rename_i op op' b c
      split
      · exact pe_bad
      · rename_i hs
        rw [Bool.or_eq_true, not_or] at hs
        exact pe_cmp2 o (by simpa using hs.1) (by simpa using hs.2) (hf a) (hf b) (hf c)
    · exact pe_bad
  | IfExp c a b pos => exact pe_ite (ht c) (hf a) (hf b)
  | Tuple es kk pos => exact pe_tupE (pa_mapE hf es)
  | List es pos => exact pe_lstE (pa_mapE hf es)
  | Dict ks vs pos =>
    show PE X _ (rdE g W (match cdict ks vs with | some kvs => if (decide (kvs.length ≤ 15) && !kvs.isEmpty && decide ((kvs.map (·.1)).Nodup)) = true then ret (dictD kvs) else bad | none => bad))
    split
    · rename_i kvs hk
      split
      · rename_i hc
        simp only [Bool.and_eq_true, decide_eq_true_eq] at hc
        exact pe_dictE hk hc.1.1 (fun z => by rw [z] at hc; exact absurd hc.1.2 (by simp)) hc.2
      · exact pe_bad
    · exact pe_bad
  | Subscript a i pos =>
    cases i with
    | Slice lo hi st p2 =>
      cases st with
      | none => exact pe_sliceE o hf
      | some s =>
        cases lo with
        | none =>
          cases hi with
          | none =>
            show PE X _ (rdE g W (if isMinus1 s then _ else _))
            split
            · rename_i hs
              exact pe_revE o (hf a) hs
            · exact pe_bad
          | some _ => exact pe_bad
        | some _ => cases hi <;> exact pe_bad
    | _ => exact pe_ixE o hf rfl
  | Call fn args kws pos =>
    cases kws with
    | nil => exact sound_call o ih
    | cons _ _ => exact pe_bad
  | ListComp elt gens scope pos =>
    cases gens with
    | nil => exact pe_bad
    | cons c1 r =>
      cases r with
      | cons _ _ =>
        have e : ∀ c2 r2, stepE C f t S (.ListComp elt (c1 :: c2 :: r2) scope pos) = bad := fun c2 r2 => by
          unfold stepE
          split <;> first | rfl | (exfalso; simp_all)
        rw [e]
        exact pe_bad
      | nil =>
        obtain ⟨tg, it, ifs, as⟩ := c1
        by_cases h0 : as = 0
        · subst h0
          show PE X _ (rdE g W (if _ then _ else _))
          split
          · rename_i hc
            simp only [Bool.and_eq_true] at hc
            exact pe_compE o ih hc.1.1 hc.1.2 (by simpa using hc.2)
          · exact pe_bad
        · have e : stepE C f t S (.ListComp elt [⟨tg, it, ifs, as⟩] scope pos) = bad := by
            unfold stepE
            split <;> first | rfl | (exfalso; simp_all)
          rw [e]
          exact pe_bad
  | _ => exact pe_bad
theorem pt_cmpT {f : Expr → M D} {a : Expr} {ops : List CmpOp} {bs : List Expr} {pos : Pos} (o : XOk C x g W k S X) (hf : ∀ e, PE X e (rdE g W (f e))) : PT X (.Compare a ops bs pos) (rdT g W (cmpT C f a ops bs)) := by
  match ops, bs with
  | [op], [b] =>
    by_cases hs : isSet b = true
    · refine pt_false fun σ H Q h => ?_
      obtain ⟨_, _, _, q⟩ := h
      simp only [cmpT, hs, if_true] at q
      exact q
    · refine PT.of (pt_cmpR (o.prX.cmp op) (hf a) (hf b) (notSet_marks (by simpa using hs))) fun σ H Q ⟨G, env, R, go⟩ => ?_
      simp only [cmpT, hs] at go
      refine ⟨G, env, R, go.bnd.imp fun p e1 G1 H1 R1 S1 go1 v rv => ⟨G1, e1, R1, go1.bnd.imp fun q e2 G2 H2 R2 S2 go2 u ru => ?_⟩⟩
      obtain ⟨c, hc, fin⟩ := go2.opt
      exact ⟨G2, p, q, .bool c, R2.view, rv.mono S2, ru, (by show (C.cmp op p q).map PyData.bool = _; rw [hc]; rfl), fun z G' H' gr rz => ⟨c, rz.toBl, fin G' H' (R2.grow gr) gr.sub⟩⟩
  | [op, op'], [b, c] =>
    by_cases hs : (isSet b || isSet c) = true
    · refine pt_false fun σ H Q h => ?_
      obtain ⟨_, _, _, q⟩ := h
      simp only [cmpT, hs, if_true] at q
      exact q
    · have hs2 : isSet c = false := by
        rw [Bool.or_eq_true, not_or] at hs
        simpa using hs.2
      refine PT.of (pt_chain (o.prX.cmp op) (o.prX.cmp op') (hf a) (hf b) (hf c) (notSet_marks hs2)) fun σ H Q ⟨G, env, R, go⟩ => ?_
      simp only [cmpT, hs] at go
      refine ⟨G, env, R, go.bnd.imp fun p e1 G1 H1 R1 S1 go1 v rv => ⟨G1, e1, R1, go1.bnd.imp fun q e2 G2 H2 R2 S2 go2 u ru => ?_⟩⟩
      have go3 := go2.bnd
      obtain ⟨t, ht, fin⟩ := go3.opt
      refine ⟨G2, p, q, .bool t, R2.view, rv.mono S2, ru, (by show (C.cmp op p q).map PyData.bool = _; rw [ht]; rfl), fun z G' H' gr rz => ?_⟩
      have R3 := R2.grow gr
      refine ⟨t, rz.toBl, ?_⟩
      have q4 := fin G' H' R3 gr.sub
      cases t with
      | false => exact iteF ⟨false, rfl, q4 G' H' R3 (Same.refl _)⟩
      | true =>
        refine iteT ⟨G', e2, R3, q4.bnd.imp fun r e3 G4 H4 R4 S4 go4 y ry => ?_⟩
        obtain ⟨t', ht', fin'⟩ := go4.opt
        exact ⟨G4, q, r, .bool t', R4.view, (ru.mono gr.sub).mono S4, ry, (by show (C.cmp op' q r).map PyData.bool = _; rw [ht']; rfl), fun z' G' H' gr' rz' => ⟨t', rz'.toBl, fin' G' H' (R4.grow gr') gr'.sub⟩⟩
  | [], _ => exact pt_false fun σ H Q h => by obtain ⟨_, _, _, q⟩ := h; exact q
  | [_], [] => exact pt_false fun σ H Q h => by obtain ⟨_, _, _, q⟩ := h; exact q
  | [_], _ :: _ :: _ => exact pt_false fun σ H Q h => by obtain ⟨_, _, _, q⟩ := h; exact q
  | [_, _], [] => exact pt_false fun σ H Q h => by obtain ⟨_, _, _, q⟩ := h; exact q
  | [_, _], [_] => exact pt_false fun σ H Q h => by obtain ⟨_, _, _, q⟩ := h; exact q
  | [_, _], _ :: _ :: _ :: _ => exact pt_false fun σ H Q h => by obtain ⟨_, _, _, q⟩ := h; exact q
  | _ :: _ :: _ :: _, _ => exact pt_false fun σ H Q h => by obtain ⟨_, _, _, q⟩ := h; exact q
theorem sound_T (o : XOk C x g W k S X) (ih : Parts C x k f t) (e : Expr) : PT X e (rdT g W (stepT C f t S e)) := by
  have hf := (ih g W S X o).1
  have ht := (ih g W S X o).2
  cases e with
  | UnaryOp op a pos =>
    cases op with
    | Not => exact pt_notT (ht a)
    | _ => exact pt_bad
  | BoolOp op es pos => exact (pw_boolT ht op es).pt
  | IfExp c a b pos => exact pt_bad
  | Compare a ops bs pos => exact pt_cmpT o hf
  | _ => exact pt_valE (hf _) (fun _ => rfl)
/-- the evaluator is right, at every depth -/
theorem sound : ∀ n, Parts C x k (evP C n).1 (evP C n).2
  | 0 => fun g W S X o => ⟨fun e => pe_bad, fun e => pt_bad⟩
  | n + 1 => fun g W S X o => ⟨fun e => sound_E o (sound n) e, fun e => sound_T o (sound n) e⟩
end
end TD

set_option Elab.async false
set_option linter.all false
set_option maxRecDepth 100000
/-! TD12: lists of ours read in a test; what is stored. -/
namespace TD
open PySem PySem.Spec PyProof.Rows L2

section
variable {g : Gh} {G H : Hp} {σ : L2.St} {env : En}
/-! ### tests -/
def frzN : Nat → En → En
  | 0, e => e
  | n + 1, e => match (frzN n e)[n]? with
    | some (.own ds) => (frzN n e).set n (.val (.list ds))
    | _ => frzN n e
theorem frzN_get : ∀ (n : Nat) (e : En) (i : Nat), (frzN n e)[i]? = if i < n then (e[i]?).map frz else e[i]?
  | 0, e, i => by simp [frzN]
  | n + 1, e, i => by
    have ih := frzN_get n e
    have en : (frzN n e)[n]? = e[n]? := by rw [ih n, if_neg (Nat.lt_irrefl _)]
    unfold frzN
    rw [en]
    by_cases hi : i = n
    · subst hi
      rw [if_pos (Nat.lt_succ_self _)]
      cases q : e[i]? with
      | none => simp only [ih i, if_neg (Nat.lt_irrefl _), q]; rfl
      | some s =>
        cases s with
        | own ds => exact get_set_eq (s' := .own ds) (by rw [en, q])
        | _ => simp only [ih i, if_neg (Nat.lt_irrefl _), q]; rfl
    · have e2 : (match e[n]? with | some (.own ds) => (frzN n e).set n (.val (.list ds)) | _ => frzN n e)[i]? = (frzN n e)[i]? := by
        split
        · exact get_set_ne (Ne.symm hi)
        · rfl
      rw [e2, ih i]
      by_cases h : i < n
      · rw [if_pos h, if_pos (by omega)]
      · rw [if_neg h, if_neg (by omega)]
theorem frzN_all (e : En) : frzN e.length e = e.map frz := by
  refine List.ext_getElem? fun i => ?_
  rw [frzN_get, List.getElem?_map]
  split
  · rfl
  · rename_i h
    rw [List.getElem?_eq_none (by omega)]
    rfl
theorem Rl.frzAll (R : Rl g G H σ env) : ∃ Gb, Rl g Gb H σ (env.map frz) ∧ Sub G Gb ∧ ∀ (i : Nat) (ds : List D) (a : Addr), env[i]? = some (Sl.own ds) → σ[i]? = some (some (V.ref a)) → Gb a = H a := by
  have step : ∀ n, ∃ Gb, Rl g Gb H σ (frzN n env) ∧ Sub G Gb ∧ ∀ (i : Nat) (ds : List D) (a : Addr), i < n → env[i]? = some (Sl.own ds) → σ[i]? = some (some (V.ref a)) → Gb a = H a := by
    intro n
    induction n with
    | zero => exact ⟨G, R, Same.refl _, fun i _ _ h => absurd h (Nat.not_lt_zero _)⟩
    | succ n ih =>
      obtain ⟨Gb, Rb, Sb, hb⟩ := ih
      have en : (frzN n env)[n]? = env[n]? := by rw [frzN_get, if_neg (Nat.lt_irrefl _)]
      unfold frzN
      split
      · rename_i ds q
        obtain ⟨a, vs, h1, R2, S2, r2⟩ := Rb.freeze q
        refine ⟨_, R2, Sb.trans S2, fun i ds' b hi e1 e2 => ?_⟩
        have hH : H a = some (.lst vs) := R2.view.sub _ _ upd_same
        by_cases hin : i = n
        · subst hin
          rw [h1] at e2
          cases e2
          rw [upd_same, hH]
        · by_cases hba : b = a
          · rw [hba, upd_same, hH]
          · rw [upd_ne hba]
            exact hb i ds' b (by omega) e1 e2
      · rename_i q
        refine ⟨Gb, Rb, Sb, fun i ds' b hi e1 e2 => ?_⟩
        by_cases hin : i = n
        · subst hin
          exact absurd (en.trans e1) (q ds')
        · exact hb i ds' b (by omega) e1 e2
  obtain ⟨Gb, Rb, Sb, hb⟩ := step env.length
  rw [frzN_all] at Rb
  refine ⟨Gb, Rb, Sb, fun i ds a e1 e2 => hb i ds a ?_ e1 e2⟩
  obtain ⟨h1, _⟩ := List.getElem?_eq_some_iff.mp e1
  exact h1
theorem restore_get : ∀ {env e' e'' : En}, restore env e' = some e'' → e''.length = env.length ∧ ∀ (i : Nat) (t : Sl), e''[i]? = some t → ∃ (s n : Sl), env[i]? = some s ∧ e'[i]? = some n ∧ backS s n = some t
  | [], [], e'', h => by cases h; exact ⟨rfl, fun i t e => by simp at e⟩
  | [], _ :: _, e'', h => by cases h
  | _ :: _, [], e'', h => by cases h
  | s :: r, n :: r', e'', h => by
    unfold restore at h
    split at h
    · rename_i t u h1 h2
      cases h
      obtain ⟨l, q⟩ := restore_get h2
      refine ⟨by simp [l], fun i t' e => ?_⟩
      cases i with
      | zero =>
        have e2 : t = t' := Option.some.inj e
        subst e2
        exact ⟨s, n, rfl, rfl, h1⟩
      | succ i => exact q i t' e
    · cases h
/-- lists of ours are ours again -/
theorem Rl.restored {Gb G' H' : Hp} {e' e'' : En} (R : Rl g G H σ env) (S : Sub G Gb) (hb : ∀ (i : Nat) (ds : List D) (a : Addr), env[i]? = some (Sl.own ds) → σ[i]? = some (some (V.ref a)) → Gb a = H a) (R' : Rl g G' H' σ e') (S' : Sub Gb G') (h : restore env e' = some e'') : Rl g G H' σ e'' := by
  obtain ⟨hl, hg⟩ := restore_get h
  have atS : ∀ j a, At e'' σ j a → At env σ j a := fun j a p => by
    refine ⟨?_, p.2⟩
    have p1 := p.1
    unfold TD.lent at p1 ⊢
    split at p1
    · rename_i ds q
      obtain ⟨s, n, e1, e2, e3⟩ := hg j _ q
      rw [e1]
      cases s with
      | own _ => rfl
      | par _ => rfl
      | non => cases e3
      | val _ => cases e3
    · rename_i ds q
      obtain ⟨s, n, e1, e2, e3⟩ := hg j _ q
      rw [e1]
      cases s with
      | own _ => rfl
      | par _ => rfl
      | non => cases e3
      | val _ => cases e3
    · cases p1
  refine ⟨hl.trans R.len, ⟨(S.trans S').trans R'.view.sub, R.view.vw⟩, R'.frame, fun b o e => ⟨(R'.fdom b o e).1, (R.fdom b o e).2⟩, R'.tabs, fun i t e => ?_, fun i j a p q => R.apart i j a (atS i a p) (atS j a q)⟩
  obtain ⟨s, n, e1, e2, e3⟩ := hg i t e
  have q := R.sl i s e1
  cases s with
  | non => cases e3; trivial
  | val d => cases e3; exact q
  | own ds =>
    cases e3
    obtain ⟨a, vs, q1, q2, q3, q4, q5, q6⟩ := q
    exact ⟨a, vs, q1, R'.view.sub _ _ (S' _ _ ((hb i ds a e1 q1).trans q2)), q3, q4, q5, q6⟩
  | par ds =>
    obtain ⟨a, vs, q1, q2, q3, q4, q5, q6, q7⟩ := q
    cases n with
    | par ds' =>
      have e3 : (if ds'.all scal = true then some (Sl.par ds') else none) = some t := e3
      by_cases hsc : ds'.all scal = true
      · rw [if_pos hsc] at e3
        cases e3
        obtain ⟨a', vs', w1, w2, w3, w4, w5, w6, w7⟩ := R'.sl i _ e2
        obtain rfl : a' = a := by rw [q1] at w1; cases w1; rfl
        exact ⟨a', vs', q1, w2, q3, q4, w5, w6.scal hsc G, q7⟩
      · rw [if_neg hsc] at e3
        cases e3
    | _ => cases e3

/-! ### the frame is made smaller -/
theorem Rl.weakF {F' : Hp} (R : Rl (g.with F') G H σ env) (h : ∀ b o, g.F b = some o → F' b = some o) : Rl g G H σ env := by
  have nn : ∀ a, F' a = none → g.F a = none := fun a e => by
    cases q : g.F a with
    | none => rfl
    | some o => rw [h a o q] at e; cases e
  refine ⟨R.len, R.view, fun b o e n => R.frame b o (h b o e) n, fun b o e => R.fdom b o (h b o e), R.tabs, fun i s e => ?_, R.apart⟩
  have q := R.sl i s e
  cases s with
  | non => trivial
  | val d => exact q
  | own ds => obtain ⟨a, vs, q1, q2, q3, q4, q5⟩ := q; exact ⟨a, vs, q1, q2, q3, nn a q4, q5⟩
  | par ds => obtain ⟨a, vs, q1, q2, q3, q4, q5⟩ := q; exact ⟨a, vs, q1, q2, q3, nn a q4, q5⟩
/-- a list of the frame becomes ours, in slot i -/
theorem Rl.takeF {i : Nat} {s' : Sl} {p : Addr} {us : List V} {ds : List D} (R : Rl (g.with (upd g.F p (.lst us))) G H σ env) (hs : env[i]? = some s') (hF : g.F p = none) (hl : us.length ≤ sizeLine) (r : RpAll g.K G us ds) : Rl g G H (σ.set i (some (.ref p))) (env.set i (.own ds)) := by
  have hH : H p = some (.lst us) := R.frame p _ (show upd g.F p (.lst us) p = _ from upd_same) (by simp)
  have hG : G p = none := (R.fdom p _ (show upd g.F p (.lst us) p = _ from upd_same)).2
  have na : ∀ j, ¬ At env σ j p := fun j q => by
    obtain ⟨s, q1, q2, q3⟩ := q.get
    have hp := q.2
    have w := R.sl j s q1
    cases s with
    | non => exact q2 rfl
    | val d => exact q3 d rfl
    | own ds =>
      obtain ⟨c, us, w1, _, _, w4, _⟩ := w
      rw [hp] at w1
      cases w1
      have w5 : upd g.F p _ p = none := w4
      rw [upd_same] at w5
      cases w5
    | par ds =>
      obtain ⟨c, us, w1, _, _, w4, _⟩ := w
      rw [hp] at w1
      cases w1
      have w5 : upd g.F p _ p = none := w4
      rw [upd_same] at w5
      cases w5
  exact (R.weakF fun b o e => by rw [upd_ne (fun z => by rw [z, hF] at e; cases e)]; exact e).storeO hs hH hG hF hl na r
end

/-! ### what is stored -/
section
variable {C : Cst} {x : Fx} {W : WX} {k : Nat} {S : Sc} {X : Cx}
/-- values that wait to be stored; lists of ours wait in the frame -/
inductive Pend (K : PySem.W.Frag) (G : Hp) : Hp → Hp → List V → List Sl → Prop
  | nil {F : Hp} : Pend K G F F [] []
  | val {F F' : Hp} {v : V} {d : D} {vs : List V} {ss : List Sl} : Rp K G v d → Pend K G F F' vs ss → Pend K G F F' (v :: vs) (.val d :: ss)
  | own {F F' : Hp} {p : Addr} {us : List V} {ds : List D} {vs : List V} {ss : List Sl} : F p = none → RpAll K G us ds → us.length ≤ sizeLine → Pend K G (upd F p (.lst us)) F' vs ss → Pend K G F F' (.ref p :: vs) (.own ds :: ss)
theorem Pend.mono {K : PySem.W.Frag} {G G' F F' : Hp} {vs : List V} {ss : List Sl} (s : Sub G G') (h : Pend K G F F' vs ss) : Pend K G' F F' vs ss := by
  induction h with
  | nil => exact .nil
  | val r _ ih => exact .val (r.mono s) ih
  | own h r l _ ih => exact .own h (r.mono s) l ih
theorem Pend.sub {K : PySem.W.Frag} {G F F' : Hp} {vs : List V} {ss : List Sl} (h : Pend K G F F' vs ss) : ∀ b o, F b = some o → F' b = some o := by
  induction h with
  | nil => exact fun _ _ e => e
  | val r _ ih => exact ih
  | own h r l _ ih => exact fun b o e => ih b o (by rw [upd_ne (fun z => by rw [z, h] at e; cases e)]; exact e)
theorem Pend.length {K : PySem.W.Frag} {G F F' : Hp} {vs : List V} {ss : List Sl} (h : Pend K G F F' vs ss) : vs.length = ss.length := by
  induction h with
  | nil => rfl
  | val r _ ih => simp [ih]
  | own h r l _ ih => simp [ih]

/-- one thing to be stored -/
def rdR (g : Gh) (W : WX) (m : M Sl) : TE := fun σ H Q => ∃ G env, Rl g G H σ env ∧ Go g W G σ (m env) fun s e' G' H' => match s with
  | .val d => ∀ v, Rp g.K G' v d → Q v H'
  | .own ds => ∀ p us, H' p = none → RpAll g.K G' us ds → us.length ≤ sizeLine → Q (.ref p) (upd H' p (.lst us))
  | _ => False
theorem pe_rhsE {g : Gh} {f : Expr → M D} (o : XOk C x g W k S X) (hf : ∀ e, PE X e (rdE g W (f e))) (e : Expr) : PE X e (rdR g W (rhsE C S f e)) := by
  have plain : ∀ e, PE X e (rdR g W (bnd (f e) fun d => ret (.val d))) := fun e => PE.of (hf e) fun σ H Q ⟨G, env, R, go⟩ => ⟨G, env, R, go.bnd.imp fun d e1 G1 H1 R1 S1 go1 => go1 G1 H1 R1 (Same.refl _)⟩
  unfold rhsE
  split
  · rename_i es p
    refine PE.of (pe_lst (pa_mapE hf es)) fun σ H Q ⟨G, env, R, go⟩ => ⟨G, env, R, go.bnd.imp fun ds e1 G1 H1 R1 S1 go1 vs rvs => ?_⟩
    by_cases hl : ds.length ≤ lim
    · rw [if_pos hl] at go1
      have hv : vs.length ≤ sizeLine := by rw [rvs.length]; exact lim_line hl
      exact ⟨hv, fun p hp => go1 G1 H1 R1 (Same.refl _) p vs hp rvs hv⟩
    · rw [if_neg hl] at go1
      exact go1.elim
  · rename_i y p a p2
    split
    · rename_i hc
      simp only [Bool.and_eq_true] at hc
      obtain rfl := beq_iff_eq.mp hc.1.1
      have hs : isStar a = false := by simpa using hc.2
      · refine PE.of (pe_callTy call_list_of (o.gl (bltB_glo hc.1.2)) (by rw [o.on.mg]; exact o.prX.free _ (by simp)) PyProof.Rows.boot_list (pa_one (hf a) hs) (by decide) (by decide) (star_cons hs) (by rfl)) fun σ H Q ⟨G, env, R, go⟩ => ⟨G, env, R, go.bnd.imp fun d e1 G1 H1 R1 S1 go1 v rv => ?_⟩
        cases d with
        | list ds =>
          obtain ⟨b, xs, rfl, hb, rb⟩ := rv.toLst
          exact ⟨b, xs, rfl, .inl (.inl (.inl (R1.view.sub _ _ hb))), fun l hl => go1 G1 H1 R1 (Same.refl _) l xs hl rb (by rw [rb.length]; exact R1.view.lst (.lst hb rb : Rp g.K G1 _ _))⟩
        | tuple ds =>
          obtain ⟨b, xs, rfl, hb, rb⟩ := rv.toTup
          exact ⟨b, xs, rfl, .inr (by rw [o.K]; exact sqT_sub R1.view.sub hb), fun l hl => go1 G1 H1 R1 (Same.refl _) l xs hl rb (by rw [rb.length]; exact R1.view.tup (.tup hb rb : Rp g.K G1 _ _))⟩
        | _ => exact go1.elim
    · exact plain _
  · exact plain _
end
end TD

set_option Elab.async false
set_option linter.all false
set_option maxRecDepth 100000
/-! TD13: assignments of tuples. -/
namespace TD
open PySem PySem.Spec PyProof.Rows L2
section
variable {C : Cst} {x : Fx} {g : Gh} {W : WX} {k : Nat} {S : Sc} {X : Cx} {f : Expr → M D}
theorem rhsE_kind {e : Expr} {env e1 : En} {s : Sl} (h : rhsE C S f e env = .ok s e1) : (∃ d, s = .val d) ∨ ∃ ds, s = .own ds := by
  have plain : ∀ e, bnd (f e) (fun d => ret (Sl.val d)) env = .ok s e1 → (∃ d, s = .val d) ∨ ∃ ds, s = .own ds := fun e h => by
    obtain ⟨d, e2, _, h2⟩ := bnd_inv h
    cases h2
    exact .inl ⟨d, rfl⟩
  unfold rhsE at h
  split at h
  · obtain ⟨ds, e2, _, h2⟩ := bnd_inv h
    split at h2
    · cases h2; exact .inr ⟨_, rfl⟩
    · cases h2
  · split at h
    · obtain ⟨d, e2, _, h2⟩ := bnd_inv h
      cases d with
      | list ds => cases h2; exact .inr ⟨_, rfl⟩
      | tuple ds => cases h2; exact .inr ⟨_, rfl⟩
      | _ => cases h2
    · exact plain _ h
  · exact plain _ h
def rdRs (g : Gh) (W : WX) (m : M (List Sl)) : TA := fun σ H Q => ∃ G env, Rl g G H σ env ∧ (match m env with
  | .ok ss e' => ∀ F' G' H' vs, Rl (g.with F') G' H' σ e' → Sub G G' → Pend g.K G' g.F F' vs ss → Q vs H'
  | .exc c e' => ∀ G' H', Rl g G' H' σ e' → Sub G G' → W (g.cl c) none σ H'
  | .bad => False)
theorem pa_rhs (o : XOk C x g W k S X) (hf : ∀ F e, PE X e (rdE (g.with F) W (f e))) : ∀ es, PA X es (fun σ H Q => ∃ F, rdRs (g.with F) W (mapE (rhsE C S f) es) σ H Q)
  | [] => PA.of pa_nil fun σ H Q ⟨F, G, env, R, h⟩ => h F G H [] R (Same.refl _) .nil
  | e :: es => by
    unfold mapE
    split
    · exact ⟨fun _ _ _ _ _ _ _ ⟨F, G, env, R, h⟩ => h.elim⟩
    · rename_i hs
      have pe : PE X e (fun σ H Q => ∃ F, rdR (g.with F) W (rhsE C S f e) σ H Q) := ⟨fun pins s σ H Q I ⟨F, h⟩ => (pe_rhsE (o.with (F := F)) (hf F) e).run pins s σ H Q I h⟩
      refine PA.of (pa_cons pe (pa_rhs o hf es) (star_cons (by simpa using hs))) fun σ H Q ⟨F, G, env, R, h⟩ => ?_
      refine ⟨F, G, env, R, ?_⟩
      cases q : rhsE C S f e env with
      | bad => rw [bnd_bad q] at h; exact h.elim
      | exc c e1 => rw [bnd_exc q] at h; exact h
      | ok s e1 =>
        rw [bnd_ok q] at h
        intro G1 H1 R1 S1
        rcases rhsE_kind q with ⟨d, rfl⟩ | ⟨ds, rfl⟩
        · intro v rv
          refine ⟨F, G1, e1, R1, ?_⟩
          cases q2 : mapE (rhsE C S f) es e1 with
          | bad => rw [bnd_bad q2] at h; exact h.elim
          | exc c e2 => rw [bnd_exc q2] at h; exact fun G' H' R' S' => h G' H' R' (S1.trans S')
          | ok ss e2 =>
            rw [bnd_ok q2] at h
            exact fun F' G' H' vs R' S' P => h F' G' H' (v :: vs) R' (S1.trans S') (.val (rv.mono S') P)
        · intro p us hp ru hl
          have hF : F p = none := R1.noF hp
          refine ⟨upd F p (.lst us), G1, e1, R1.frameIn hp, ?_⟩
          cases q2 : mapE (rhsE C S f) es e1 with
          | bad => rw [bnd_bad q2] at h; exact h.elim
          | exc c e2 =>
            rw [bnd_exc q2] at h
            exact fun G' H' R' S' => h G' H' (Rl.weakF (g := g.with F) R' fun b o e => by rw [upd_ne (fun z => by rw [z] at e; rw [show (g.with F).F p = F p from rfl, hF] at e; cases e)]; exact e) (S1.trans S')
          | ok ss e2 =>
            rw [bnd_ok q2] at h
            exact fun F' G' H' vs R' S' P => h F' G' H' (.ref p :: vs) R' (S1.trans S') (.own hF (ru.mono S') hl P)

/-! ### stores -/
def setAllR (σ : L2.St) : List Nat → List V → L2.St
  | i :: is, v :: vs => (setAllR σ is vs).set i (some v)
  | _, _ => σ
def slotsOf (C : Cst) : List Expr → Option (List Nat)
  | [] => some []
  | .Name y _ :: es => (match slot C y, slotsOf C es with
    | some i, some is => some (i :: is)
    | _, _ => none)
  | _ => none
theorem slotsOf_len : ∀ {ts : List Expr} {is : List Nat}, slotsOf C ts = some is → is.length = ts.length
  | [], is, h => by cases h; rfl
  | t :: ts, is, h => by
    cases t with
    | Name y p =>
      unfold slotsOf at h
      split at h
      · rename_i i is' h1 h2
        cases h
        simp [slotsOf_len h2]
      · cases h
    | _ => cases h
theorem wrNames_inv : ∀ {ts : List Expr} {ss : List Sl} {env e' : En}, wrNames C S ts ss env = .ok () e' → ss.length = ts.length ∧ ∃ is, slotsOf C ts = some is ∧ ∀ t ∈ ts, ∃ y p, t = .Name y p ∧ locB S.vis y = true ∧ locB S.asg y = true
  | [], [], env, e', h => ⟨rfl, [], rfl, fun t ht => by cases ht⟩
  | [], _ :: _, env, e', h => by cases h
  | t :: ts, [], env, e', h => by cases t <;> cases h
  | t :: ts, s :: ss, env, e', h => by
    cases t with
    | Name y p =>
      obtain ⟨_, e1, h1, h2⟩ := bnd_inv (show bnd (wrNames C S ts ss) (fun _ => wrName C S y s) env = .ok () e' from h)
      obtain ⟨l, is, q, ht⟩ := wrNames_inv h1
      obtain ⟨i, s', hi, l1, l2, _⟩ := wrName_ok h2
      refine ⟨by simp [l], i :: is, by unfold slotsOf; rw [hi, q], fun t ht' => ?_⟩
      rcases List.mem_cons.mp ht' with rfl | z
      · exact ⟨y, p, rfl, l1, l2⟩
      · exact ht t z
    | _ => cases h
theorem wrNames_rl {G H F F' : Hp} {vs : List V} {ss : List Sl} (P : Pend g.K G F F' vs ss) : ∀ {ts : List Expr} {σ : L2.St} {env e' : En} {is : List Nat}, Rl (g.with F') G H σ env → wrNames C S ts ss env = .ok () e' → slotsOf C ts = some is → Rl (g.with F) G H (setAllR σ is vs) e' := by
  induction P with
  | nil =>
    intro ts σ env e' is R h q
    cases ts with
    | nil => cases h; cases q; exact R
    | cons t ts => cases t <;> cases h
  | @val F F' v d vs ss r P ih =>
    intro ts σ env e' is R h q
    cases ts with
    | nil => cases h
    | cons t ts =>
      cases t with
      | Name y p =>
        obtain ⟨_, e1, h1, h2⟩ := bnd_inv (show bnd (wrNames C S ts ss) (fun _ => wrName C S y (.val d)) env = .ok () e' from h)
        obtain ⟨i, s', hi, l1, l2, hs, _, rfl⟩ := wrName_ok h2
        obtain ⟨_, is', q', _⟩ := wrNames_inv h1
        have e2 : is = i :: is' := by unfold slotsOf at q; rw [hi, q'] at q; exact (Option.some.inj q).symm
        subst e2
        exact (ih R h1 q').storeV hs r
      | _ => cases h
  | @own F F' p us ds vs ss hF ru hl P ih =>
    intro ts σ env e' is R h q
    cases ts with
    | nil => cases h
    | cons t ts =>
      cases t with
      | Name y p =>
        obtain ⟨_, e1, h1, h2⟩ := bnd_inv (show bnd (wrNames C S ts ss) (fun _ => wrName C S y (.own ds)) env = .ok () e' from h)
        obtain ⟨i, s', hi, l1, l2, hs, _, rfl⟩ := wrName_ok h2
        obtain ⟨_, is', q', _⟩ := wrNames_inv h1
        have e2 : is = i :: is' := by unfold slotsOf at q; rw [hi, q'] at q; exact (Option.some.inj q).symm
        subst e2
        exact Rl.takeF (g := g.with F) (ih R h1 q') hs hF hl ru
      | _ => cases h

/-! ### the order of the stores -/
theorem set_setAllR {σ : L2.St} {i : Nat} {v : Option V} : ∀ {is : List Nat} {vs : List V}, i ∉ is → setAllR (σ.set i v) is vs = (setAllR σ is vs).set i v
  | [], vs, _ => by cases vs <;> rfl
  | j :: is, [], _ => rfl
  | j :: is, u :: vs, h => by
    rw [List.mem_cons, not_or] at h
    unfold setAllR
    rw [set_setAllR h.2, List.set_comm _ _ h.1]
/-- names from the left -/
theorem pgs_names (o : XOk C x g W k S X) : ∀ {ts : List Expr} {is : List Nat}, slotsOf C ts = some is → is.Nodup → (∀ t ∈ ts, ∃ y p, t = .Name y p ∧ locB S.vis y = true ∧ locB S.asg y = true) →
    PGs X ts (fun vs σ H Q => vs.length = ts.length ∧ Q (setAllR σ is vs) H)
  | [], is, h, nd, _ => by
    cases h
    exact PGs.of pgs_nil fun vs σ H Q ⟨hl, q⟩ => by
      have e : vs = [] := List.length_eq_zero_iff.mp hl
      subst e
      exact ⟨rfl, q⟩
  | t :: ts, is, h, nd, hn => by
    obtain ⟨y, p, rfl, l1, l2⟩ := hn t List.mem_cons_self
    unfold slotsOf at h
    split at h
    · rename_i i is' hi h2
      cases h
      rw [List.nodup_cons] at nd
      refine PGs.of (pgs_cons (o.tgt hi l1 l2) (pgs_names o h2 nd.2 fun t ht => hn t (List.mem_cons_of_mem _ ht))) fun vs σ H Q ⟨hl, q⟩ => ?_
      cases vs with
      | nil => cases hl
      | cons v vs =>
        refine ⟨v, vs, rfl, by simpa using hl, ?_⟩
        rw [set_setAllR nd.1]
        exact q
    · cases h
def swapNames (sc : Scope) (ts : List Expr) : List Str := ts.filterMap fun
  | .Name id pos => if sc.names.lookup id == some .local && pos.line == (ts.head?.map (·.pos.line)).getD 0 then some id else none
  | _ => none
theorem swap_eq {env : Env} {ts vs : List Expr} {kt k2 : Nat} {pt pt2 : Pos} {r : Option (List Str)} (h : swapC env.scope ts vs = some r) (hk : env.scope.kind = .function) : swappedStores [.Tuple ts kt pt] (.Tuple vs k2 pt2) env = pure r := by
  have hb : env.blockKind = .function := by unfold Env.blockKind; rw [hk]; rfl
  have e1 : swappedStores [.Tuple ts kt pt] (.Tuple vs k2 pt2) env = (if (!(ts.length == 2 || ts.length == 3) || vs.length != ts.length || env.blockKind != .function) = true then pure none
      else if vs.any isStar = true then pure none
      else if ((swapNames env.scope ts).length != ts.length || (swapNames env.scope ts).eraseDups.length != (swapNames env.scope ts).length) = true then pure none
      else if vs.all (foldedForSure 8) = true then pure none
      else if vs.all (constantsAlone 8) = true then (do
        unsupported "assign.tuple-of-constant-expressions:order-of-the-stores"
        pure (some (swapNames env.scope ts)))
      else pure (some (swapNames env.scope ts))) := rfl
  have e2 : swapC env.scope ts vs = (if (!(ts.length == 2 || ts.length == 3) || vs.length != ts.length) = true then some none
      else if vs.any isStar = true then some none
      else if ((swapNames env.scope ts).length != ts.length || (swapNames env.scope ts).eraseDups.length != (swapNames env.scope ts).length) = true then some none
      else if vs.all (foldedForSure 8) = true then some none
      else if vs.all (constantsAlone 8) = true then none
      else some (some (swapNames env.scope ts))) := rfl
  rw [e1, hb]
  rw [e2] at h
  have e0 : (!(ts.length == 2 || ts.length == 3) || vs.length != ts.length || (ScopeKind.function != ScopeKind.function)) = (!(ts.length == 2 || ts.length == 3) || vs.length != ts.length) := by
    rw [show (ScopeKind.function != ScopeKind.function) = false from rfl, Bool.or_false]
  rw [e0]
  generalize swapNames env.scope ts = nm at h ⊢
  by_cases c1 : (!(ts.length == 2 || ts.length == 3) || vs.length != ts.length) = true
  · rw [if_pos c1] at h ⊢
    cases h
    rfl
  rw [if_neg c1] at h ⊢
  by_cases c2 : vs.any isStar = true
  · rw [if_pos c2] at h ⊢
    cases h
    rfl
  rw [if_neg c2] at h ⊢
  by_cases c3 : (nm.length != ts.length || nm.eraseDups.length != nm.length) = true
  · rw [if_pos c3] at h ⊢
    cases h
    rfl
  rw [if_neg c3] at h ⊢
  by_cases c4 : vs.all (foldedForSure 8) = true
  · rw [if_pos c4] at h ⊢
    cases h
    rfl
  rw [if_neg c4] at h ⊢
  by_cases c5 : vs.all (constantsAlone 8) = true
  · rw [if_pos c5] at h
    cases h
  rw [if_neg c5] at h ⊢
  cases h
  rfl
theorem swap_some {sc : Scope} {ts vs : List Expr} {names : List Str} (h : swapC sc ts vs = some (some names)) :
    (ts.length = 2 ∨ ts.length = 3) ∧ vs.length = ts.length ∧ swapNames sc ts = names ∧ names.length = ts.length := by
  unfold swapC at h
  dsimp only at h
  split at h
  · cases h
  rename_i c1
  split at h
  · cases h
  split at h
  · cases h
  rename_i c3
  split at h
  · cases h
  split at h
  · cases h
  have e := Option.some.inj (Option.some.inj h)
  simp only [Bool.or_eq_true, Bool.not_eq_true', not_or, bne_iff_ne, ne_eq, Decidable.not_not, Bool.not_eq_false, beq_iff_eq] at c1 c3
  refine ⟨?_, c1.2, e, by rw [← e]; exact c3.1⟩
  have := c1.1
  simpa using this
/-- names = a tuple -/
def tTupSet (is : List Nat) (n : Nat) (ta : TA) : TS := fun E σ H => ta σ H fun vs H1 => vs.length = n ∧ vs.length ≤ sizeLine ∧ E.nx (setAllR σ is vs) H1 ∧ ∀ p, H1 p = none → E.nx (setAllR σ is vs) (upd H1 p (.tup vs))
theorem tup_swaps {t : List Expr} {kt : Nat} {pt : Pos} {e : Expr} {l : Nat} {env : Env} : swapsWithSole [.Tuple t kt pt] e l env = pure false := by
  cases e <;> rfl
theorem slots_nodup : ∀ {ts : List Expr} {is : List Nat}, slotsOf C ts = some is → (ts.filterMap nameOf).Nodup → is.Nodup
  | [], is, h, _ => by cases h; exact List.nodup_nil
  | t :: ts, is, h, nd => by
    cases t with
    | Name y p =>
      unfold slotsOf at h
      split at h
      · rename_i i is' hi h2
        cases h
        have nd' : (y :: ts.filterMap nameOf).Nodup := nd
        rw [List.nodup_cons] at nd' ⊢
        refine ⟨fun hm => nd'.1 ?_, slots_nodup h2 nd'.2⟩
        have key : ∀ {ts : List Expr} {is : List Nat} {j : Nat}, slotsOf C ts = some is → j ∈ is → ∃ z, z ∈ ts.filterMap nameOf ∧ slot C z = some j := by
          intro ts
          induction ts with
          | nil => intro is j h hm; cases h; cases hm
          | cons t ts ih =>
            intro is j h hm
            cases t with
            | Name z q =>
              unfold slotsOf at h
              split at h
              · rename_i i2 is2 h3 h4
                cases h
                rcases List.mem_cons.mp hm with rfl | hm
                · exact ⟨z, List.mem_cons_self, h3⟩
                · obtain ⟨z2, m2, e2⟩ := ih h4 hm
                  exact ⟨z2, List.mem_cons_of_mem _ m2, e2⟩
              · cases h
            | _ => cases h
        obtain ⟨z, m, e⟩ := key h2 hm
        have e1 := slotIn_get hi
        have e2 := slotIn_get e
        rw [e1] at e2
        cases e2
        exact m
      · cases h
    | _ => cases h
theorem filterMap_full {α β : Type} {f : α → Option β} : ∀ {l : List α}, (l.filterMap f).length = l.length → ∀ a ∈ l, ∃ b, f a = some b
  | [], _, a, h => by cases h
  | c :: l, hl, a, h => by
    cases q : f c with
    | none =>
      rw [List.filterMap_cons, q] at hl
      have := List.length_filterMap_le f l
      simp only [List.length_cons] at hl
      omega
    | some b =>
      rw [List.filterMap_cons, q] at hl
      rcases List.mem_cons.mp h with rfl | h
      · exact ⟨b, q⟩
      · exact filterMap_full (by simpa using hl) a h
theorem swapNames_loc {sc : Scope} {ts : List Expr} (hl : (swapNames sc ts).length = ts.length) {y : Str} {p : Pos} (h : Expr.Name y p ∈ ts) : sc.names.lookup y = some .local ∧ (if sc.names.lookup y == some .local && p.line == (ts.head?.map (·.pos.line)).getD 0 then some y else none) = some y := by
  obtain ⟨b, q⟩ := filterMap_full hl _ h
  have q : (if sc.names.lookup y == some .local && p.line == (ts.head?.map (·.pos.line)).getD 0 then some y else none) = some b := q
  by_cases c : (sc.names.lookup y == some .local && p.line == (ts.head?.map (·.pos.line)).getD 0) = true
  · have c' := c
    simp only [Bool.and_eq_true, beq_iff_eq] at c
    exact ⟨c.1, by rw [if_pos c']⟩
  · rw [if_neg c] at q
    cases q
theorem swapNames_cons2 {sc : Scope} {x y : Str} {px py : Pos} {names : List Str} (h : swapNames sc [.Name x px, .Name y py] = names) (hl : names.length = 2) : sc.names.lookup x = some .local ∧ sc.names.lookup y = some .local ∧ names = [x, y] := by
  subst h
  obtain ⟨a1, a2⟩ := swapNames_loc (ts := [.Name x px, .Name y py]) hl (y := x) (p := px) (by simp)
  obtain ⟨b1, b2⟩ := swapNames_loc (ts := [.Name x px, .Name y py]) hl (y := y) (p := py) (by simp)
  refine ⟨a1, b1, ?_⟩
  unfold swapNames
  simp only [List.filterMap_cons, List.filterMap_nil, a2, b2]
theorem swapNames_cons3 {sc : Scope} {x y z : Str} {px py pz : Pos} {names : List Str} (h : swapNames sc [.Name x px, .Name y py, .Name z pz] = names) (hl : names.length = 3) :
    sc.names.lookup x = some .local ∧ sc.names.lookup y = some .local ∧ sc.names.lookup z = some .local ∧ names = [x, y, z] := by
  subst h
  obtain ⟨a1, a2⟩ := swapNames_loc (ts := [.Name x px, .Name y py, .Name z pz]) hl (y := x) (p := px) (by simp)
  obtain ⟨b1, b2⟩ := swapNames_loc (ts := [.Name x px, .Name y py, .Name z pz]) hl (y := y) (p := py) (by simp)
  obtain ⟨c1, c2⟩ := swapNames_loc (ts := [.Name x px, .Name y py, .Name z pz]) hl (y := z) (p := pz) (by simp)
  refine ⟨a1, b1, c1, ?_⟩
  unfold swapNames
  simp only [List.filterMap_cons, List.filterMap_nil, a2, b2, c2]
theorem len_two {α : Type} {l : List α} (h : l.length = 2) : ∃ a b, l = [a, b] := match l, h with
  | [a, b], _ => ⟨a, b, rfl⟩
theorem len_three {α : Type} {l : List α} (h : l.length = 3) : ∃ a b c, l = [a, b, c] := match l, h with
  | [a, b, c], _ => ⟨a, b, c, rfl⟩
theorem ps_tupAsg {ts es : List Expr} {kt k2 : Nat} {pt pt2 pos : Pos} {is : List Nat} {ta : TA} (o : XOk C x g W k S X) (ha : PA X es ta) (hm : ∀ (σ : L2.St) (H : Hp) (P P' : List V → Hp → Prop), (∀ vs H1, P vs H1 → P' vs H1) → ta σ H P → ta σ H P')
    (hi : slotsOf C ts = some is) (nd : is.Nodup) (hn : ∀ t ∈ ts, ∃ y p, t = .Name y p ∧ locB S.vis y = true ∧ locB S.asg y = true)
    (hl : es.length = ts.length) (hsw : (swapC S.vis ts es).isSome = true) : PS X (.Assign [.Tuple ts kt pt] (.Tuple es k2 pt2) pos) (tTupSet is ts.length ta) := by
  obtain ⟨r, hr⟩ := Option.isSome_iff_exists.mp hsw
  have hst : ts.any isStar = false := by
    rw [List.any_eq_false]
    intro t ht
    obtain ⟨y, p, rfl, _⟩ := hn t ht
    simp [isStar]
  have ht1 : (assignEach [.Tuple ts kt pt] X.env).map (·.2) = [assign (.Tuple ts kt pt) X.env] := rfl
  refine ⟨fun pins s σ H E I h => ?_⟩
  have sw := swap_eq (env := X.env) (kt := kt) (k2 := k2) (pt := pt) (pt2 := pt2) (by rw [o.sc]; exact hr) I.ok.kind
  cases r with
  | none =>
    refine (ps_asg (pe_tup ha) (pg_tup o.on.calm (pgs_names o hi nd hn) tup_len (tup_star hst)) tup_swaps sw ht1).run pins s σ H E I ?_
    refine hm σ H _ _ (fun vs H1 ⟨h1, h2, _, h4⟩ => ?_) h
    exact ⟨h2, fun p hp => ⟨p, vs, rfl, .inl (.inl upd_same), h1, h1, h4 p hp⟩⟩
  | some names =>
    obtain ⟨h23, hlen, hnm, hnl⟩ := swap_some hr
    rcases h23 with h2 | h3
    · obtain ⟨t1, t2, rfl⟩ := len_two h2
      obtain ⟨a, b, rfl⟩ := len_two (hlen.trans h2)
      obtain ⟨y1, p1, rfl, _⟩ := hn t1 (by simp)
      obtain ⟨y2, p2, rfl, _⟩ := hn t2 (by simp)
      obtain ⟨l1, l2, rfl⟩ := swapNames_cons2 hnm hnl
      unfold slotsOf slotsOf slotsOf at hi
      cases q1 : slot C y1 with
      | none => rw [q1] at hi; cases hi
      | some i =>
        cases q2 : slot C y2 with
        | none => rw [q1, q2] at hi; cases hi
        | some j =>
          rw [q1, q2] at hi
          cases hi
          have hij : i ≠ j := by
            rw [List.nodup_cons] at nd
            intro e
            exact nd.1 (by simp [e])
          refine (ps_par o.on.calm (by rw [o.N]; exact o.nd) (by rw [o.N]; exact slotIn_get q1) (by rw [o.N]; exact slotIn_get q2) hij (by rw [o.sc]; exact l1) (by rw [o.sc]; exact l2) ha sw tup_swaps).run pins s σ H E I ?_
          refine hm σ H _ _ (fun vs H1 ⟨h1, h2, h3, _⟩ => ?_) h
          match vs, h1 with
          | [v, w], _ =>
            refine ⟨v, w, rfl, ?_⟩
            have e : setAllR σ [i, j] [v, w] = (σ.set i (some v)).set j (some w) := List.set_comm _ _ (Ne.symm hij)
            rw [← e]
            exact h3
    · obtain ⟨t1, t2, t3, rfl⟩ := len_three h3
      obtain ⟨a, b, c, rfl⟩ := len_three (hlen.trans h3)
      obtain ⟨y1, p1, rfl, _⟩ := hn t1 (by simp)
      obtain ⟨y2, p2, rfl, _⟩ := hn t2 (by simp)
      obtain ⟨y3, p3, rfl, _⟩ := hn t3 (by simp)
      obtain ⟨l1, l2, l3, rfl⟩ := swapNames_cons3 hnm hnl
      unfold slotsOf slotsOf slotsOf slotsOf at hi
      cases q1 : slot C y1 with
      | none => rw [q1] at hi; cases hi
      | some i =>
        cases q2 : slot C y2 with
        | none => rw [q1, q2] at hi; cases hi
        | some j =>
          cases q3 : slot C y3 with
          | none => rw [q1, q2, q3] at hi; cases hi
          | some l =>
            rw [q1, q2, q3] at hi
            cases hi
            rw [List.nodup_cons, List.nodup_cons] at nd
            have hij : i ≠ j := fun e => nd.1 (by simp [e])
            have hil : i ≠ l := fun e => nd.1 (by simp [e])
            have hjl : j ≠ l := fun e => nd.2.1 (by simp [e])
            refine (ps_par3 o.on.calm (by rw [o.N]; exact o.nd) (by rw [o.N]; exact slotIn_get q1) (by rw [o.N]; exact slotIn_get q2) (by rw [o.N]; exact slotIn_get q3) hij hil hjl (by rw [o.sc]; exact l1) (by rw [o.sc]; exact l2) (by rw [o.sc]; exact l3) ha sw tup_swaps).run pins s σ H E I ?_
            refine hm σ H _ _ (fun vs H1 ⟨h1, h2, h3, _⟩ => ?_) h
            match vs, h1 with
            | [u, v, w], _ =>
              refine ⟨u, v, w, rfl, ?_⟩
              have e : setAllR σ [i, j, l] [u, v, w] = ((σ.set i (some u)).set j (some v)).set l (some w) := by
                show ((σ.set l (some w)).set j (some v)).set i (some u) = _
                rw [List.set_comm _ _ (Ne.symm hjl), List.set_comm _ _ (Ne.symm hil), List.set_comm _ _ (Ne.symm hij)]
              rw [← e]
              exact h3
end
end TD

set_option Elab.async false
set_option linter.all false
set_option maxRecDepth 100000
/-! TD14: statements. -/
namespace TD
open PySem PySem.Spec PyProof.Rows L2
section
variable {C : Cst} {x : Fx} {g : Gh} {W : WX} {k : Nat} {S : Sc} {X : Cx}
theorem ps_bad {st : Stmt} : PS X st (rdS g W bad) := ps_false fun _ _ _ h => by obtain ⟨_, _, _, q⟩ := h; exact q
theorem notComp_swaps {e : Expr} {t : Option Expr} {l : Nat} {env : Env} (h : isComp e = false) : swapsWith e t l env = pure false := by
  cases e <;> first | rfl | cases h
/-! ### simple ones -/
theorem ps_exprE {e : Expr} {m : M D} {pos : Pos} (hc : isComp e = false) (h : PE X e (rdE g W m)) : PS X (.Expr e pos) (rdS g W (bnd m fun _ => ret .next)) := by
  refine PS.of (ps_expr h (notComp_swaps hc)) fun E σ H ⟨G, env, R, go⟩ => ?_
  exact ⟨G, env, R, (GoS.go (σ := σ) go.bnd).imp fun d e1 G1 H1 R1 S1 go1 v _ => go1 σ G1 H1 R1 (Same.refl _)⟩
theorem ps_retE {e : Expr} {m : M D} {pos : Pos} (h : PE X e (rdE g W m)) : PS X (.Return (some e) pos) (rdS g W (bnd m fun d => ret (.ret d))) := by
  refine PS.of (ps_ret h) fun E σ H ⟨G, env, R, go⟩ => ?_
  exact ⟨G, env, R, (GoS.go (σ := σ) go.bnd).imp fun d e1 G1 H1 R1 S1 go1 => go1 σ G1 H1 R1 (Same.refl _)⟩
theorem ps_raiseE {c z : Str} {j : Nat} {p p2 p3 pos : Pos} (o : XOk C x g W k S X) (hc : C.excs c = true) (hg : gloB S.vis c = true) :
    PS X (.Raise (some (.Call (.Name c p) [.Constant (.str z) j p2] [] p3)) none pos) (rdS g W (fun env => .exc c env)) := by
  obtain ⟨⟨Ca, h1, h2, h3, h4, h5, h6⟩, h7⟩ := o.prX.excs c hc
  have K1 : X.K = x.K := o.on.K
  refine PS.of (L2N.ps_raise o.on.calm o.tk (L2N.pmk_own PySem.F.excBase_ValueError (by rw [K1]; exact h3) (by rw [o.on.mg]; exact h2) (by rw [K1]; exact h4) (raises_own (by rw [K1]; exact h5) (by rw [K1]; exact h6)) (o.gl hg) h7)) fun E σ H ⟨G, env, R, go⟩ => ?_
  have q := go σ G H R (Same.refl _)
  rw [h1] at q
  exact q
/-! ### x = e -/
theorem canW_ok {y : Str} (h : canW C S y = true) : ∃ i, slot C y = some i ∧ locB S.vis y = true ∧ locB S.asg y = true := by
  unfold canW at h
  simp only [Bool.and_eq_true] at h
  obtain ⟨i, hi⟩ := Option.isSome_iff_exists.mp h.1.1
  exact ⟨i, hi, h.1.2, h.2⟩
theorem wrName_noexc {y : Str} {v : Sl} {env e : En} {c : Str} (h : wrName C S y v env = .exc c e) : False := by
  unfold wrName at h
  cases q : slot C y with
  | none => simp only [q] at h; cases h
  | some i =>
    simp only [q] at h
    split at h
    · unfold wrSlot at h
      split at h <;> cases h
    · cases h
def StoreTo (g : Gh) (i : Nat) (σ : L2.St) (E : Ends) (G1 H1 : Hp) (v : Sl) : Prop := match v with
  | .val d => ∀ u, Rp g.K G1 u d → gName i u σ H1 E.nx
  | .own ds => ∀ p us, H1 p = none → RpAll g.K G1 us ds → us.length ≤ sizeLine → gName i (.ref p) σ (upd H1 p (.lst us)) E.nx
  | _ => False
/-- a thing is stored -/
theorem store_one {y : Str} {i : Nat} {v : Sl} {e1 : En} {E : Ends} {σ : L2.St} {G1 H1 : Hp} (hi : slot C y = some i) (R1 : Rl g G1 H1 σ e1) (hv : (∃ d, v = .val d) ∨ ∃ ds, v = .own ds)
    (go1 : GoS g W G1 (bnd (wrName C S y v) (fun _ => ret Fl.next) e1) (fun f _ σ' G' H' => flowTo g E f σ' G' H')) : StoreTo g i σ E G1 H1 v := by
  cases q2 : wrName C S y v e1 with
  | bad => rw [bnd_bad q2] at go1; exact go1.elim
  | exc c e2 => exact (wrName_noexc q2).elim
  | ok u e2 =>
    rw [bnd_ok q2] at go1
    obtain ⟨i', s', hi', _, _, hs, _, rfl⟩ := wrName_ok q2
    rw [hi] at hi'
    cases hi'
    rcases hv with ⟨d, rfl⟩ | ⟨ds, rfl⟩
    · exact fun v rv => go1 _ G1 H1 (R1.storeV hs rv) (Same.refl _)
    · intro p us hp ru hl
      have R2 := R1.frameIn (xs := us) hp
      exact go1 _ G1 _ (R2.takeF hs (R1.noF hp) hl ru) (Same.refl _)
theorem ps_setE {y : Str} {e : Expr} {f : Expr → M D} {py pos : Pos} (o : XOk C x g W k S X) (hf : ∀ e, PE X e (rdE g W (f e))) (hc : isComp e = false) (hw : canW C S y = true) :
    PS X (.Assign [.Name y py] e pos) (rdS g W (bnd (rhsE C S f e) fun v => bnd (wrName C S y v) fun _ => ret .next)) := by
  obtain ⟨i, hi, l1, l2⟩ := canW_ok hw
  refine PS.of (ps_set (by rw [o.N]; exact o.nd) (by rw [o.N]; exact slotIn_get hi) (by rw [o.sc]; exact locB_loc l1) (pe_rhsE o hf e) (notComp_swaps hc) (by rw [o.sc]; exact o.fn y l2)) fun E σ H ⟨G, env, R, go⟩ => ?_
  have go0 := go.bnd
  refine ⟨G, env, R, ?_⟩
  cases q : rhsE C S f e env with
  | bad => rw [q] at go0; exact go0.elim
  | exc c e1 => rw [q] at go0; exact fun G' H' R' S' => go0 σ G' H' R' S'
  | ok v e1 =>
    rw [q] at go0
    exact fun G1 H1 R1 S1 => store_one hi R1 (rhsE_kind q) (go0 σ G1 H1 R1 S1)
/-- x = [..] by a comprehension -/
theorem ps_setComp {f : Sc → Expr → M D} {t : Sc → Expr → M Bool} {y : Str} {elt tg it : Expr} {ifs : List Expr} {scope : Scope} {py pos spos : Pos} (o : XOk C x g W k S X) (ih : Parts C x k f t) (hw : canW C S y = true)
    (hb : blkC C.N S.vis scope (ownOf C scope) = true) (hts : ((tslots C 3 tg).all fun i => ((ownOf C scope).map (·.2)).contains i) = true) (hset : isSet it = false) :
    PS X (.Assign [.Name y py] (.ListComp elt [⟨tg, it, ifs, 0⟩] scope pos) spos) (rdS g W (bnd (bnd (bnd (iterE C S (f S) tg it) fun items =>
          bnd (inner ((ownOf C scope).map (·.2)) (compL ((ownOf C scope).map (·.2)) (asgE C (setVis S scope) 3 tg) (testsE (t (setVis S scope)) ifs) (f (setVis S scope) elt) items)) fun ds => ret (.list ds)) fun d => ret (.val d))
      fun v => bnd (wrName C S y v) fun _ => ret .next)) := by
  obtain ⟨i, hi, l1, l2⟩ := canW_ok hw
  obtain ⟨gT, TT', EE, c⟩ := compOk (elt := elt) (tg := tg) (it := it) (ifs := ifs) (scope := scope) o ih hb hts
  have rd : ∀ E σ H, rdS g W (bnd (bnd (bnd (iterE C S (f S) tg it) fun items =>
          bnd (inner ((ownOf C scope).map (·.2)) (compL ((ownOf C scope).map (·.2)) (asgE C (setVis S scope) 3 tg) (testsE (t (setVis S scope)) ifs) (f (setVis S scope) elt) items)) fun ds => ret (.list ds)) fun d => ret (.val d))
      fun v => bnd (wrName C S y v) fun _ => ret .next) E σ H → tAsg (tLc (rdI g W (iterE C S (f S) tg it)) gT TT' EE ((ownOf C scope).map (·.2))) (gName i) E σ H := fun E σ H ⟨G, env, R, go⟩ => by
    refine c.rd σ H _ ⟨G, env, R, ?_⟩
    have go0 := go.bnd
    generalize hm : (bnd (iterE C S (f S) tg it) fun items =>
          bnd (inner ((ownOf C scope).map (·.2)) (compL ((ownOf C scope).map (·.2)) (asgE C (setVis S scope) 3 tg) (testsE (t (setVis S scope)) ifs) (f (setVis S scope) elt) items)) fun ds => ret (PyData.list ds)) = m at *
    cases q : m env with
    | bad => rw [bnd_bad q] at go0; exact go0.elim
    | exc c e1 => rw [bnd_exc q] at go0; exact fun G' H' R' S' => go0 σ G' H' R' S'
    | ok d e1 =>
      rw [bnd_ok q] at go0
      exact fun G1 H1 R1 S1 => store_one (v := .val d) hi R1 (.inl ⟨d, rfl⟩) (go0 σ G1 H1 R1 S1)
  refine ⟨fun pins s σ H E I h => ?_⟩
  have kd : X.env.scope.kind = .function := I.ok.kind
  have hbk : X.env.blockKind = .function := by unfold Env.blockKind; rw [kd]; rfl
  have sw : swapsWith (.ListComp elt [⟨tg, it, ifs, 0⟩] scope pos) (some (.Name y py)) spos.line X.env = pure (X.env.kindOf y == some .local && py.line == pos.line && !(scope.names.any fun (n, k) => n == y && (k == .local || k == .cell))) := by
    show pure (X.env.blockKind == .function && X.env.kindOf y == some .local && py.line == pos.line && !(scope.names.any fun (n, k) => n == y && (k == .local || k == .cell))) = _
    rw [hbk]
    rfl
  cases hsw : (X.env.kindOf y == some .local && py.line == pos.line && !(scope.names.any fun (n, k) => n == y && (k == .local || k == .cell))) with
  | false =>
    rw [hsw] at sw
    exact (ps_set (by rw [o.N]; exact o.nd) (by rw [o.N]; exact slotIn_get hi) (by rw [o.sc]; exact locB_loc l1) (pe_lc o.on.calm (by rw [o.N]; exact o.nd) c.pi c.ok c.hg c.ht c.he (notSet_fold hset)) sw (by rw [o.sc]; exact o.fn y l2)).run pins s σ H E I (rd E σ H h)
  | true =>
    rw [hsw] at sw
    simp only [Bool.and_eq_true, beq_iff_eq] at hsw
    exact (ps_setLc o.on.calm (by rw [o.N]; exact o.nd) (by rw [o.N]; exact slotIn_get hi) hsw.1.1 sw c.pi c.ok c.hg c.ht c.he (notSet_fold hset)).run pins s σ H E I (rd E σ H h)
/-! ### several names, an item -/
theorem canWs_ok : ∀ {ts : List Expr}, canWs C S ts = true → (∃ is, slotsOf C ts = some is) ∧ ∀ t ∈ ts, ∃ y p, t = .Name y p ∧ locB S.vis y = true ∧ locB S.asg y = true
  | [], _ => ⟨⟨[], rfl⟩, fun t ht => by cases ht⟩
  | t :: ts, h => by
    cases t with
    | Name y p =>
      have h : (canW C S y && canWs C S ts) = true := h
      rw [Bool.and_eq_true] at h
      obtain ⟨i, hi, l1, l2⟩ := canW_ok h.1
      obtain ⟨⟨is, his⟩, hn⟩ := canWs_ok h.2
      refine ⟨⟨i :: is, by unfold slotsOf; rw [hi, his]⟩, fun t ht => ?_⟩
      rcases List.mem_cons.mp ht with rfl | ht
      · exact ⟨y, p, rfl, l1, l2⟩
      · exact hn t ht
    | _ => cases h
theorem wrNames_noexc : ∀ {ts : List Expr} {ss : List Sl} {env e : En} {c : Str}, wrNames C S ts ss env = .exc c e → False
  | [], [], env, e, c, h => by cases h
  | [], _ :: _, env, e, c, h => by cases h
  | t :: ts, [], env, e, c, h => by cases t <;> cases h
  | t :: ts, s :: ss, env, e, c, h => by
    cases t with
    | Name y p =>
      have h : bnd (wrNames C S ts ss) (fun _ => wrName C S y s) env = .exc c e := h
      cases q : wrNames C S ts ss env with
      | bad => rw [bnd_bad q] at h; cases h
      | exc c2 e2 => exact wrNames_noexc q
      | ok u e2 => rw [bnd_ok q] at h; exact wrName_noexc h
    | _ => cases h
theorem ps_tupE {ts es : List Expr} {f : Expr → M D} {kt k2 : Nat} {pt pt2 pos : Pos} (o : XOk C x g W k S X) (hf : ∀ F e, PE X e (rdE (g.with F) W (f e))) (hw : canWs C S ts = true) (hl : es.length = ts.length) (hlm : es.length ≤ lim) (nd : (ts.filterMap nameOf).Nodup)
    (hsw : (swapC S.vis ts es).isSome = true) : PS X (.Assign [.Tuple ts kt pt] (.Tuple es k2 pt2) pos) (rdS g W (bnd (mapE (rhsE C S f) es) fun vs => bnd (wrNames C S ts vs) fun _ => ret .next)) := by
  obtain ⟨⟨is, his⟩, hn⟩ := canWs_ok hw
  refine PS.of (ps_tupAsg o (pa_rhs o hf es) (fun σ H P P' imp ⟨F, G, env, R, h⟩ => ⟨F, G, env, R, ?_⟩) his (slots_nodup his nd) hn hl hsw) fun E σ H ⟨G, env, R, go⟩ => ?_
  · cases q : mapE (rhsE C S f) es env with
    | bad => rw [q] at h; exact h.elim
    | exc c e1 => rw [q] at h; exact h
    | ok ss e1 => rw [q] at h; exact fun F' G' H' vs R' S' P => imp _ _ (h F' G' H' vs R' S' P)
  · have go0 := go.bnd
    refine ⟨g.F, G, env, R, ?_⟩
    cases q : mapE (rhsE C S f) es env with
    | bad => rw [q] at go0; exact go0.elim
    | exc c e1 => rw [q] at go0; exact fun G' H' R' S' => go0 σ G' H' R' S'
    | ok ss e1 =>
      rw [q] at go0
      intro F' G1 H1 vs R1 S1 P
      have Rg : Rl g G1 H1 σ e1 := R1.weakF fun b o e => P.sub b o e
      have go1 : GoS g W G1 (bnd (wrNames C S ts ss) (fun _ => ret Fl.next) e1) (fun f _ σ' G' H' => flowTo g E f σ' G' H') := go0 σ G1 H1 Rg S1
      cases q2 : wrNames C S ts ss e1 with
      | bad => rw [bnd_bad q2] at go1; exact go1.elim
      | exc c e2 => exact (wrNames_noexc q2).elim
      | ok u e2 =>
        rw [bnd_ok q2] at go1
        have R2 : Rl g G1 H1 (setAllR σ is vs) e2 := wrNames_rl P R1 q2 his
        have hvl : vs.length = ts.length := by rw [P.length]; exact (wrNames_inv q2).1
        refine ⟨hvl, ?_, go1 _ G1 H1 R2 (Same.refl _), fun p hp => go1 _ G1 _ (R2.grow (Grow.junk R2.view hp)) (Same.refl _)⟩
        rw [hvl, ← hl]
        exact lim_line hlm
end
end TD

set_option Elab.async false
set_option linter.all false
set_option maxRecDepth 100000
/-! TD15: all statements; a def's promise. -/
namespace TD
open PySem PySem.Spec PyProof.Rows L2
section
variable {C : Cst} {x : Fx} {g : Gh} {W : WX} {k : Nat} {S : Sc} {X : Cx}
theorem asgE_noexc : ∀ {n : Nat} {e : Expr} {d : D} {env e' : En} {c : Str}, asgE C S n e d env = .exc c e' → False
  | 0, e, d, env, e', c, h => by cases h
  | n + 1, e, d, env, e', c, h => by
    have many : ∀ {es : List Expr} {ds : List D} {env e' : En} {c : Str}, asgs (asgE C S n) es ds env = .exc c e' → False := by
      intro es
      induction es with
      | nil => intro ds env e' c h; cases ds <;> cases h
      | cons e es ih =>
        intro ds env e' c h
        cases ds with
        | nil => cases h
        | cons d ds =>
          have h : bnd (asgE C S n e d) (fun _ => asgs (asgE C S n) es ds) env = .exc c e' := h
          cases q : asgE C S n e d env with
          | bad => rw [bnd_bad q] at h; cases h
          | exc c2 e2 => exact asgE_noexc q
          | ok u e2 => rw [bnd_ok q] at h; exact ih h
    cases e with
    | Name y p => exact wrName_noexc (show wrName C S y (.val d) env = .exc c e' from h)
    | Tuple es kk p =>
      cases d with
      | tuple ds => exact many h
      | list ds => exact many h
      | _ => cases h
    | _ => cases h
theorem nonTup_swap {ts : List Expr} {kt : Nat} {pt : Pos} {e : Expr} {env : Env} (h : isTupT e = false) : swappedStores [.Tuple ts kt pt] e env = pure none := by
  cases e <;> first | rfl | cases h
/-- a, b = e -/
theorem ps_unpackE {ts : List Expr} {e : Expr} {m : M D} {kt : Nat} {pt pos : Pos} (o : XOk C x g W k S X) (he : PE X e (rdE g W m)) (ht : isTupT e = false) :
    PS X (.Assign [.Tuple ts kt pt] e pos) (rdS g W (bnd m fun d => bnd (asgE C S 3 (.Tuple ts kt pt) d) fun _ => ret .next)) := by
  refine PS.of (ps_asg he (pg_asgE o 3 (.Tuple ts kt pt)) tup_swaps (nonTup_swap ht) rfl) fun E σ H ⟨G, env, R, go⟩ => ?_
  refine ⟨G, env, R, (GoS.go (σ := σ) go.bnd).imp fun d e1 G1 H1 R1 S1 go1 v rv => ?_⟩
  cases q : asgE C S 3 (.Tuple ts kt pt) d e1 with
  | bad => rw [bnd_bad q] at go1; exact go1.elim
  | exc c e2 => exact (asgE_noexc q).elim
  | ok u e2 =>
    rw [bnd_ok q] at go1
    exact ⟨G1, e1, d, e2, R1, rv, q, fun σ' R' _ _ => go1 σ' G1 H1 R' (Same.refl _)⟩
theorem sub_swaps {a i : Expr} {p : Pos} {e : Expr} {l : Nat} {env : Env} : swapsWithSole [.Subscript a i p] e l env = pure false := by cases e <;> rfl
theorem sub_swap {a i : Expr} {p : Pos} {e : Expr} {env : Env} : swappedStores [.Subscript a i p] e env = pure none := by cases e <;> rfl
theorem sub_assign {a i : Expr} {p : Pos} {env : Env} (h : isSlice i = false) : ∀ v, assign (.Subscript a i p) env v = (do
      let ov ← holding [v] (eval a env)
      let iv ← holding [v, ov] (eval i env)
      standAt p
      holding [v, ov, iv] (setItem ov iv v)
      release [v, ov, iv] []) := fun v => by cases i <;> first | rfl | cases h
/-- x[i] = e, x a list of ours or lent -/
theorem ps_itemE {a i e : Expr} {f : Expr → M D} {p pos : Pos} (o : XOk C x g W k S X) (hf : ∀ e, PE X e (rdE g W (f e))) (hs : isSlice i = false) :
    PS X (.Assign [.Subscript a i p] e pos) (rdS g W (bnd (f e) fun d => fun env => (match lentAt C S a env with
      | some j => (bnd (f i) fun y => fun env' => match lent j env', y with
        | some ds, .int k => if 0 ≤ k ∧ k < ds.length then .ok .next (putL j (ds.set k.toNat d) env') else .bad
        | _, _ => .bad) env
      | none => .bad))) := by
  refine ⟨fun pins s σ H E I h => ?_⟩
  obtain ⟨G, env, R, go⟩ := h
  have go0 := go.bnd
  cases q : f e env with
  | bad => rw [q] at go0; exact go0.elim
  | exc c e1 =>
    rw [q] at go0
    have pa : PE X a (rdE g W (f a)) := hf a
    refine (ps_asg (hf e) (pg_sub (t := fun _ _ _ _ _ => False) (hf a) (hf i) (fun _ _ _ _ _ _ _ _ _ _ _ _ _ _ _ z => z.elim) (sub_assign hs)) sub_swaps sub_swap rfl).run pins s σ H E I ⟨G, env, R, ?_⟩
    rw [q]
    exact fun G' H' R' S' => go0 σ G' H' R' S'
  | ok d e1 =>
    rw [q] at go0
    cases hj : lentAt C S a e1 with
    | none =>
      refine (ps_asg (hf e) (pg_sub (t := fun _ _ _ _ _ => False) (hf a) (hf i) (fun _ _ _ _ _ _ _ _ _ _ _ _ _ _ _ z => z.elim) (sub_assign hs)) sub_swaps sub_swap rfl).run pins s σ H E I ⟨G, env, R, ?_⟩
      rw [q]
      intro G1 H1 R1 S1 v rv
      have go1 := go0 σ G1 H1 R1 S1
      simp only [hj] at go1
      exact go1.elim
    | some j =>
      obtain ⟨y, p', rfl, h1, h2, h3, ds0, hd0⟩ := lentAt_some hj
      refine (ps_asg (hf e) (pg_sub (o.var h1 h2 h3) (hf i) set_list (sub_assign hs)) sub_swaps sub_swap rfl).run pins s σ H E I ⟨G, env, R, ?_⟩
      rw [q]
      intro G1 H1 R1 S1 v rv
      obtain ⟨a0, vs0, w0, _⟩ := R1.lent hd0
      have go1 := go0 σ G1 H1 R1 S1
      simp only [hj] at go1
      refine ⟨.ref a0, w0, G1, e1, R1, (GoS.go (σ := σ) go1.bnd).imp fun y2 e2 G2 H2 R2 S2 go2 u ru => ?_⟩
      split at go2
      · rename_i ds kk hd
        split at go2
        · rename_i hk
          obtain ⟨a1, vs1, w1, w2, w3, w4, w5, w6, w7⟩ := R2.lent hd
          obtain rfl : a1 = a0 := by rw [w0] at w1; cases w1; rfl
          refine ⟨a1, vs1, kk, kk.toNat, rfl, ru.toInt, w2, ixN_at hk.1 rfl (by rw [w6.length]; omega), ?_⟩
          exact go2 σ G2 _ (R2.write hd w1 (by rw [List.length_set]; exact w5) (w6.set _ (rv.mono S2))) (Same.refl _)
        · exact go2.elim
      · exact go2.elim
/-! ### if, for, while -/
/-- a test in a statement -/
theorem rd_borrow {m : M Bool} {n : Bool → M Fl} {E : Ends} {σ : L2.St} {H : Hp} (h : rdS g W (bnd (borrow m) n) E σ H) : rdT g W m σ H fun b H1 => rdS g W (n b) E σ H1 := by
  obtain ⟨G, env, R, go⟩ := h
  obtain ⟨Gb, Rb, Sb, hb⟩ := R.frzAll
  refine ⟨Gb, env.map frz, Rb, ?_⟩
  unfold TD.bnd borrow at go
  cases q : m (env.map frz) with
  | bad => rw [q] at go; exact go.elim
  | exc c e1 => rw [q] at go; exact fun G' H' R' S' => go σ G' H' R' (Sb.trans S')
  | ok b e1 =>
    rw [q] at go
    intro G' H' R' S'
    cases q2 : restore env e1 with
    | none => simp only [q2] at go; exact go.elim
    | some e2 =>
      simp only [q2] at go
      exact ⟨G, e2, R.restored Sb hb R' S' q2, go⟩
theorem rd_tst {m : M Bool} {n : Bool → M Fl} {E : Ends} {σ : L2.St} {H : Hp} (d : Bool) (h : rdS g W (bnd (tstM d m) n) E σ H) : rdT g W m σ H fun b H1 => rdS g W (n b) E σ H1 := by
  cases d with
  | false => exact rd_borrow h
  | true =>
    obtain ⟨G, env, R, go⟩ := h
    have go : GoS g W G (bnd m n env) _ := go
    exact ⟨G, env, R, (GoS.go (σ := σ) go.bnd).imp fun b e1 G1 H1 R1 S1 go1 => ⟨G1, e1, R1, go1⟩⟩
theorem ps_ifE {c : Expr} {a b : List Stmt} {m : M Bool} {ma mb : M Fl} {pos : Pos} (hc : PT X c (rdT g W m)) (ha : PSs X a (rdS g W ma)) (hb : PSs X b (rdS g W mb)) : PS X (.If c a b pos) (rdS g W (bnd (tstM (drawT c) m) fun t => if t then ma else mb)) := by
  refine PS.of (ps_if hc ha hb) fun E σ H h => ?_
  obtain ⟨G, env, R, go⟩ := rd_tst _ h
  refine ⟨G, env, R, go.imp fun t e1 G1 H1 R1 S1 q => ?_⟩
  cases t with
  | true => exact iteT q
  | false => exact iteF q
theorem pss_block {f : Stmt → M Fl} (hf : ∀ st, PS X st (rdS g W (f st))) : ∀ ss, PSs X ss (rdS g W (blockL f ss))
  | [] => PSs.of pss_nil fun E σ H ⟨G, env, R, go⟩ => go σ G H R (Same.refl _)
  | s :: ss => by
    refine PSs.of (pss_cons (hf s) (pss_block hf ss)) fun E σ H ⟨G, env, R, go⟩ => ⟨G, env, R, go.bnd.imp fun fl e1 σ1 G1 H1 R1 S1 go1 => ?_⟩
    cases fl with
    | next => exact ⟨G1, e1, R1, go1⟩
    | brk => exact go1 σ1 G1 H1 R1 (Same.refl _)
    | ret d => exact go1 σ1 G1 H1 R1 (Same.refl _)
theorem ps_forE {tg it : Expr} {body : List Stmt} {f : Expr → M D} {mb : M Fl} {pos : Pos} (o : XOk C x g W k S X) (hp : PassesOwn (model X.prog X.w) X.A X.env X.xe) (hf : ∀ e, PE X e (rdE g W (f e))) (hb : PSs X body (rdS g W mb)) (hset : isSet it = false) :
    PS X (.For tg it body [] pos) (rdS g W (bnd (iterE C S f tg it) fun items => forL (asgE C S 3 tg) mb items)) := by
  refine PS.of (ps_for hp o.on.calm (pi_iterE o hf) (pg_asgE o 3 tg) hb (notSet_fold hset)) fun E σ H ⟨G, env, R, go⟩ => ?_
  refine ⟨G, env, R, (GoS.go (σ := σ) go.bnd).imp fun items e1 G1 H1 R1 S1 go1 J wd hlen => ?_⟩
  obtain ⟨Y, wk, yok⟩ := wd
  refine for_it wk (fun i σ' H' => ∃ Gi ei, Rl g Gi H' σ' ei ∧ Sub G1 Gi ∧ GoS g W Gi (forL (asgE C S 3 tg) mb (items.drop i) ei) fun f _ σ' G' H' => flowTo g E f σ' G' H')
    ⟨G1, e1, R1, Same.refl _, go1⟩ (fun i σ' H' _ ⟨Gi, ei, Ri, Si, _⟩ => Si.trans Ri.view.sub) (fun i v σ' H' H2 hi ⟨Gi, ei, Ri, Si, goi⟩ y => ?_) (fun σ' H' ⟨Gi, ei, Ri, Si, goi⟩ => ?_)
  · have hd : items[i]? = some items[i] := List.getElem?_eq_getElem hi
    rw [List.drop_eq_getElem_cons hi] at goi
    obtain ⟨G2, gr, rv⟩ := yok i H' v H2 Gi _ Si Ri.view y hd
    have R2 := Ri.grow gr
    have goi : GoS g W Gi (bnd (asgE C S 3 tg items[i]) (fun _ => bnd mb fun f => match f with
      | .next => forL (asgE C S 3 tg) mb (items.drop (i + 1))
      | .brk => ret .next
      | .ret d => ret (.ret d)) ei) _ := goi
    cases q : asgE C S 3 tg items[i] ei with
    | bad => rw [bnd_bad q] at goi; exact goi.elim
    | exc c e2 => exact (asgE_noexc q).elim
    | ok u e2 =>
      rw [bnd_ok q] at goi
      refine ⟨G2, ei, items[i], e2, R2, rv, q, fun σ2 R3 _ _ => ⟨G2, e2, R3, (GoS.bnd (goi.mono gr.sub)).imp fun fl e3 σ3 G3 H3 R4 S4 go4 => ?_⟩⟩
      cases fl with
      | next => exact ⟨G3, e3, R4, (Si.trans gr.sub).trans S4, go4⟩
      | brk => exact go4 σ3 G3 H3 R4 (Same.refl _)
      | ret d => exact go4 σ3 G3 H3 R4 (Same.refl _)
  · rw [List.drop_eq_nil_of_le (Nat.le_refl _)] at goi
    exact goi σ' Gi H' Ri (Same.refl _)
theorem ps_whileE {c : Expr} {body : List Stmt} {m : M Bool} {mb : M Fl} {n : Nat} {pos : Pos} (hp : PassesOwn (model X.prog X.w) X.A X.env X.xe) (hc : PT X c (rdT g W m)) (hb : PSs X body (rdS g W mb)) :
    PS X (.While c body [] pos) (rdS g W (whileL (borrow m) mb n)) := by
  refine PS.of (ps_while hp hc hb) fun E σ H h => ?_
  refine ⟨fun j σ' H' => rdS g W (whileL (borrow m) mb j) E σ' H', ⟨n, h⟩, fun j σ' H' hj => ?_⟩
  cases j with
  | zero => obtain ⟨_, _, _, q⟩ := hj; exact q.elim
  | succ j =>
    obtain ⟨G, env, R, go⟩ := rd_borrow hj
    refine ⟨G, env, R, go.imp fun t e1 G1 H1 R1 S1 q => ?_⟩
    cases t with
    | false =>
      obtain ⟨G2, e2, R2, go2⟩ := q
      exact iteF (go2 σ' G2 H1 R2 (Same.refl _))
    | true =>
      obtain ⟨G2, e2, R2, go2⟩ := q
      refine iteT ⟨fun σ3 H3 => rdS g W (whileL (borrow m) mb j) E σ3 H3, fun σ3 H3 z => ⟨j, Nat.lt_succ_self _, z⟩, G2, e2, R2, (GoS.bnd go2).imp fun fl e3 σ3 G3 H3 R3 S3 go3 => ?_⟩
      cases fl with
      | next => exact ⟨G3, e3, R3, go3⟩
      | brk => exact go3 σ3 G3 H3 R3 (Same.refl _)
      | ret d => exact go3 σ3 G3 H3 R3 (Same.refl _)
/-! ### all statements -/
theorem XOk.withE (o : XOk C x g W k S X) (n : Nat) : ∀ F e, PE X e (rdE (g.with F) W (ev C n S e)) := fun F e => (sound n _ _ _ _ (o.with (F := F))).1 e
theorem sound_S {n : Nat} {ex : Stmt → M Fl} (o : XOk C x g W k S X) (hp : PassesOwn (model X.prog X.w) X.A X.env X.xe) (ih : ∀ st, PS X st (rdS g W (ex st))) (st : Stmt) : PS X st (rdS g W (stepS C n ex S st)) := by
  have hf : ∀ e, PE X e (rdE g W (ev C n S e)) := (sound n g W S X o).1
  have ht : ∀ e, PT X e (rdT g W (evT C n S e)) := (sound n g W S X o).2
  cases st with
  | Pass p => exact PS.of ps_pass fun E σ H ⟨G, env, R, go⟩ => go σ G H R (Same.refl _)
  | Break p => exact PS.of ps_break fun E σ H ⟨G, env, R, go⟩ => go σ G H R (Same.refl _)
  | Expr e p =>
    show PS X _ (rdS g W (if isComp e then bad else _))
    split
    · exact ps_bad
    · rename_i hc
      exact ps_exprE (by simpa using hc) (hf e)
  | Return e p =>
    cases e with
    | none => exact PS.of ps_retN fun E σ H ⟨G, env, R, go⟩ => go σ G H R (Same.refl _) _ .non
    | some e => exact ps_retE (hf e)
  | Raise e c p =>
    have key : ∀ (st : Stmt), (∀ y p z j p2 p3 p4, st ≠ .Raise (some (.Call (.Name y p) [.Constant (.str z) j p2] [] p3)) none p4) → (∃ e c p, st = .Raise e c p) → stepS C n ex S st = bad := by
      intro st h ⟨e, c, p, hst⟩
      subst hst
      unfold stepS
      split <;> first | rfl | (exfalso; rename_i heq; exact h _ _ _ _ _ _ _ heq) | (exfalso; simp_all)
    by_cases hr : ∃ y p1 z j p2 p3 p4, Stmt.Raise e c p = .Raise (some (.Call (.Name y p1) [.Constant (.str z) j p2] [] p3)) none p4
    · obtain ⟨y, p1, z, j, p2, p3, p4, e1⟩ := hr
      rw [e1]
      show PS X _ (rdS g W (if _ then _ else _))
      split
      · rename_i hc
        simp only [Bool.and_eq_true] at hc
        exact ps_raiseE o hc.1.1 hc.1.2
      · exact ps_bad
    · rw [key _ (fun y p1 z j p2 p3 p4 e1 => hr ⟨y, p1, z, j, p2, p3, p4, e1⟩) ⟨e, c, p, rfl⟩]
      exact ps_bad
  | Assign ts e p =>
    cases ts with
    | nil => exact ps_bad
    | cons t r =>
      cases r with
      | cons _ _ => exact ps_bad
      | nil =>
        cases t with
        | Name y py =>
          show PS X _ (rdS g W (if canW C S y then _ else bad))
          split
          · rename_i hw
            by_cases hc : isComp e = true
            · cases e with
              | ListComp elt gens scope pos =>
                have hbad : ev C n S (.ListComp elt gens scope pos) = bad → PS X (.Assign [.Name y py] (.ListComp elt gens scope pos) p) (rdS g W (bnd (rhsE C S (ev C n S) (.ListComp elt gens scope pos)) fun v => bnd (wrName C S y v) fun _ => ret .next)) := fun hb => by
                  refine ps_false fun E σ H ⟨G, env, R, go⟩ => ?_
                  have e1 : rhsE C S (ev C n S) (.ListComp elt gens scope pos) env = .bad := by
                    show bnd (ev C n S (.ListComp elt gens scope pos)) _ env = .bad
                    rw [hb]
                    rfl
                  rw [bnd_bad e1] at go
                  exact go
                cases n with
                | zero => exact hbad rfl
                | succ n =>
                  cases gens with
                  | nil => exact hbad rfl
                  | cons c1 r =>
                    cases r with
                    | cons c2 r2 =>
                      refine hbad ?_
                      show stepE C _ _ S (.ListComp elt (c1 :: c2 :: r2) scope pos) = bad
                      unfold stepE
                      split <;> first | rfl | (exfalso; simp_all)
                    | nil =>
                      obtain ⟨tg, it, ifs, as⟩ := c1
                      by_cases h0 : as = 0
                      · subst h0
                        by_cases hcc : (blkC C.N S.vis scope (ownOf C scope) && ((tslots C 3 tg).all fun i => ((ownOf C scope).map (·.2)).contains i) && !isSet it) = true
                        · have hcd := hcc
                          simp only [Bool.and_eq_true] at hcc
                          have := ps_setComp (elt := elt) (ifs := ifs) (py := py) (pos := pos) (spos := p) o (sound n) hw hcc.1.1 hcc.1.2 (by simpa using hcc.2)
                          have e2 : ev C (n + 1) S (.ListComp elt [⟨tg, it, ifs, 0⟩] scope pos) = (bnd (iterE C S ((evP C n).1 S) tg it) fun items =>
                              bnd (inner ((ownOf C scope).map (·.2)) (compL ((ownOf C scope).map (·.2)) (asgE C (setVis S scope) 3 tg) (testsE ((evP C n).2 (setVis S scope)) ifs) ((evP C n).1 (setVis S scope) elt) items)) fun ds => ret (.list ds)) := by
                            show (if _ then _ else _) = _
                            rw [if_pos hcd]
                          show PS X _ (rdS g W (bnd (bnd (ev C (n + 1) S (.ListComp elt [⟨tg, it, ifs, 0⟩] scope pos)) _) _))
                          rw [e2]
                          exact this
                        · refine hbad ?_
                          show (if _ then _ else _) = _
                          rw [if_neg hcc]
                      · refine hbad ?_
                        show stepE C _ _ S (.ListComp elt [⟨tg, it, ifs, as⟩] scope pos) = bad
                        unfold stepE
                        split <;> first | rfl | (exfalso; simp_all)
              | SetComp _ _ _ _ =>
                refine ps_false fun E σ H ⟨G, env, R, go⟩ => ?_
                cases n <;> exact go
              | DictComp _ _ _ _ _ =>
                refine ps_false fun E σ H ⟨G, env, R, go⟩ => ?_
                cases n <;> exact go
              | _ => cases hc
            · exact ps_setE o hf (by simpa using hc) hw
          · exact ps_bad
        | Tuple es kk pt =>
          show PS X _ (rdS g W (if canWs C S es then _ else bad))
          split
          · rename_i hw
            cases e with
            | Tuple vs k2 pt2 =>
              show PS X _ (rdS g W (if _ then _ else bad))
              split
              · rename_i hc
                simp only [Bool.and_eq_true, decide_eq_true_eq] at hc
                exact ps_tupE o (o.withE n) hw hc.1.1.1 hc.1.1.2 hc.1.2 hc.2
              · exact ps_bad
            | _ => exact ps_unpackE o (hf _) rfl
          · exact ps_bad
        | Subscript a i pt =>
          show PS X _ (rdS g W (if isSlice i then bad else _))
          split
          · exact ps_bad
          · rename_i hs
            exact ps_itemE o hf (by simpa using hs)
        | _ => exact ps_bad
  | If t a b p => exact ps_ifE (ht t) (pss_block ih a) (pss_block ih b)
  | For tg it body els p =>
    cases els with
    | cons _ _ => exact ps_bad
    | nil =>
      show PS X _ (rdS g W (if isSet it then bad else _))
      split
      · exact ps_bad
      · rename_i hs
        exact ps_forE o hp hf (pss_block ih body) (by simpa using hs)
  | While t body els p =>
    cases els with
    | cons _ _ => exact ps_bad
    | nil => exact ps_whileE hp (ht t) (pss_block ih body)
  | _ => exact ps_bad
end
end TD

set_option Elab.async false
set_option linter.all false
set_option maxRecDepth 100000
/-! TD16: a def keeps its promise; all defs of a table. -/
namespace TD
open PySem PySem.Spec PyProof.Rows L2
section
variable {C : Cst} {x : Fx} {g : Gh} {W : WX} {k : Nat} {S : Sc} {X : Cx}
theorem sound_X {n : Nat} (o : XOk C x g W k S X) (hp : PassesOwn (model X.prog X.w) X.A X.env X.xe) : ∀ (m : Nat) (st : Stmt), PS X st (rdS g W (exec C n S m st))
  | 0, st => ps_bad
  | m + 1, st => sound_S o hp (sound_X o hp m) st
/-! ### the end of a def -/
theorem outs_get : ∀ {as e o : En}, outs as e = some o → o.length = as.length ∧ ∀ (i : Nat) (t : Sl), o[i]? = some t → ∃ (a n : Sl), as[i]? = some a ∧ e[i]? = some n ∧ outS a n = some t
  | [], e, o, h => by cases h; exact ⟨rfl, fun i t e => by simp at e⟩
  | _ :: _, [], o, h => by cases h
  | a :: r, n :: r', o, h => by
    unfold outs at h
    split at h
    · rename_i t u h1 h2
      cases h
      obtain ⟨l, q⟩ := outs_get h2
      refine ⟨by simp [l], fun i t' e => ?_⟩
      cases i with
      | zero =>
        have e2 : t = t' := Option.some.inj e
        subst e2
        exact ⟨a, n, rfl, rfl, h1⟩
      | succ i => exact q i t' e
    · cases h
theorem outS_par {a n : Sl} {ds : List D} (h : outS a n = some (.par ds)) : n = .par ds := by
  cases a with
  | par _ =>
    cases n with
    | par _ => cases h; rfl
    | _ => cases h
  | val _ => cases h
  | _ => cases h
theorem outS_kind {a n t : Sl} (h : outS a n = some t) : (∃ d, a = .val d ∧ t = .val d) ∨ ∃ ds, n = .par ds ∧ t = .par ds := by
  cases a with
  | par _ =>
    cases n with
    | par ds => cases h; exact .inr ⟨ds, rfl, rfl⟩
    | _ => cases h
  | val d => cases h; exact .inl ⟨d, rfl, rfl⟩
  | _ => cases h
theorem Bof_get {vs : List V} {i : Nat} {a : Addr} (h : Bof vs i = some a) : (vs.map some)[i]? = some (some (.ref a)) := by
  unfold Bof at h
  split at h
  · rename_i b q
    cases h
    rw [List.getElem?_map, q]
    rfl
  · cases h
theorem Rl.outs {K : PySem.W.Frag} {T : List (Addr × Str)} {F : Hp} {cl : Str → Value} {vs : List V} {G H G' H' : Hp} {σ' : L2.St} {as e o : En} (R : Rl ⟨K, T, Bof vs, F, cl⟩ G H (vs.map some) as) (R' : Rl ⟨K, T, Bof vs, F, cl⟩ G' H' σ' e) (s : Sub G G') (h : TD.outs as e = some o) :
    Rl ⟨K, T, Bof vs, F, cl⟩ G' H' (vs.map some) o := by
  obtain ⟨hl, hg⟩ := outs_get h
  have atS : ∀ i a, At o (vs.map some) i a → At e σ' i a := fun i a p => by
    obtain ⟨t, q1, q2, q3⟩ := p.get
    obtain ⟨b, n, e1, e2, e3⟩ := hg i t q1
    rcases outS_kind e3 with ⟨d, _, rfl⟩ | ⟨ds, rfl, rfl⟩
    · exact (q3 d rfl).elim
    · obtain ⟨c, us, w1, w2, w3, w4, w5, w6, w7⟩ := R'.sl i _ e2
      have w8 := Bof_get (show Bof vs i = some c from w7)
      have p2 := p.2
      rw [w8] at p2
      cases p2
      exact ⟨by rw [lent_iff.mpr (.inr e2)]; rfl, w1⟩
  refine ⟨by rw [hl, R.len], R'.view, R'.frame, R'.fdom, R'.tabs, fun i t q => ?_, fun i j a p q => R'.apart i j a (atS i a p) (atS j a q)⟩
  obtain ⟨b, n, e1, e2, e3⟩ := hg i t q
  rcases outS_kind e3 with ⟨d, rfl, rfl⟩ | ⟨ds, rfl, rfl⟩
  · obtain ⟨v, h1, h2⟩ := R.sl i _ e1
    exact ⟨v, h1, h2.mono s⟩
  · obtain ⟨c, us, w1, w2, w3, w4, w5, w6, w7⟩ := R'.sl i _ e2
    exact ⟨c, us, Bof_get (show Bof vs i = some c from w7), w2, w3, w4, w5, w6, w7⟩
/-- at the entry: the other names hold nothing -/
theorem Rl.entry {G H : Hp} {N : List Str} {vs : List V} {as : En} (R : Rl g G H (vs.map some) as) (hl : as.length = vs.length) : Rl g G H (L2.start N vs) (as ++ List.replicate (N.length - as.length) .non) := by
  have lo : ∀ (i : Nat) (t : Sl), (as ++ List.replicate (N.length - as.length) Sl.non)[i]? = some t → t = Sl.non ∨ as[i]? = some t := fun i t e => by
    by_cases hi : i < as.length
    · rw [List.getElem?_append_left hi] at e
      exact .inr e
    · rw [List.getElem?_append_right (by omega), List.getElem?_replicate] at e
      split at e
      · cases e; exact .inl rfl
      · cases e
  have st : ∀ i, i < as.length → (L2.start N vs)[i]? = (vs.map some)[i]? := fun i hi => by
    unfold L2.start
    rw [List.getElem?_append_left (by rw [List.length_map]; omega)]
  have atS : ∀ i a, At (as ++ List.replicate (N.length - as.length) Sl.non) (L2.start N vs) i a → At as (vs.map some) i a := fun i a p => by
    obtain ⟨t, q1, q2, q3⟩ := p.get
    rcases lo i t q1 with rfl | q
    · exact (q2 rfl).elim
    · obtain ⟨hi, _⟩ := List.getElem?_eq_some_iff.mp q
      exact p.slot (by rw [q1, q]) (st i hi)
  refine ⟨by unfold L2.start; simp [hl], R.view, R.frame, R.fdom, R.tabs, fun i t e => ?_, fun i j a p q => R.apart i j a (atS i a p) (atS j a q)⟩
  rcases lo i t e with rfl | q
  · trivial
  · obtain ⟨hi, _⟩ := List.getElem?_eq_some_iff.mp q
    exact (R.sl i t q).slot (st i hi)
/-- a def of the top keeps the promise that the evaluator makes of it -/
theorem def_ok {T : List (Addr × Str)} {cl : Str → Value} {n m : Nat} {y qual : Str} {params : Arguments} {body : List Stmt} {scope : Scope} {f : Addr} {fd : FuncData} {ps : List Str} (Fd : FunD x.K y qual params body scope [] [] f fd) (hs : FnScope C.N ps scope)
    (pr : ∀ Y, On x k Y → PrX C x x.K T cl k Y)
    (hl : (∃ y, C.told y = true) → LamC x T fd.code (qual ++ ".<locals>.")) : FnOk x.P x.w x.K x.mg x.base (L2N.CX x.P x.w) (k + 1) f fd ps (SpOf x.K T cl ps.length (runDef C n m ⟨scope, scope⟩ body ps.length)) := by
  obtain ⟨oc, od, dV, kV, doc, pm, an, cdv, ct, osl, efd, lk, hcd, _, _⟩ := Fd.ex
  have hl' : (∃ y, C.told y = true) → LamC x T cdv (qual ++ ".<locals>.") := by
    rw [efd] at hl
    exact hl
  clear hl
  subst efd
  refine fn_of lk hcd hs (fun vs H Q E h => ?_) (fun A outer s H vs Q E hr h => ?_)
  · obtain ⟨F, G, as, hln, R, _⟩ := h
    have := R.len
    rw [List.length_map] at this
    rw [← this, hln]
  · obtain ⟨F, G, as, hln, R, h⟩ := h
    have hvl : as.length = vs.length := by
      have := R.len
      rwa [List.length_map] at this
    have e1 : (cxOf (L2N.CX x.P x.w) x.P x.w x.K x.mg x.base C.N qual scope f cdv A outer s H E).env.code = cdv := rfl
    have e2 : (cxOf (L2N.CX x.P x.w) x.P x.w x.K x.mg x.base C.N qual scope f cdv A outer s H E).env.qual = qual ++ ".<locals>." := rfl
    have o : XOk C x ⟨x.K, T, Bof vs, F, cl⟩ (fun cls d _ H => E cls d H) k ⟨scope, scope⟩ (cxOf (L2N.CX x.P x.w) x.P x.w x.K x.mg x.base C.N qual scope f cdv A outer s H E) :=
      ⟨⟨rfl, rfl, rfl, rfl, rfl, rfl, hr⟩, rfl, pr, rfl, hs.nd, rfl, fun y _ => .inl rfl, L2N.takes_of rfl rfl rfl rfl, fun h => by rw [e1, e2]; exact hl' h⟩
    refine ⟨_, pss_block (sound_X (n := n) o (passes_of rfl) m) body, G, as ++ List.replicate (C.N.length - as.length) .non, R.entry hvl, ?_⟩
    unfold runDef at h
    rw [if_pos hln] at h
    rw [hln]
    cases q : blockL (exec C n ⟨scope, scope⟩ m) body (as ++ List.replicate (C.N.length - ps.length) Sl.non) with
    | bad => rw [q] at h; exact h.elim
    | exc c e =>
      rw [q] at h
      intro σ' G' H' R' S'
      unfold ended endOk at h
      cases q2 : outs as e with
      | none => simp only [q2] at h
      | some o' => simp only [q2] at h; exact h G' H' (R.outs R' S' q2) S'
    | ok fl e =>
      rw [q] at h
      intro σ' G' H' R' S'
      cases fl with
      | brk => exact h.elim
      | next =>
        unfold ended endOk at h
        cases q2 : outs as e with
        | none => simp only [q2] at h
        | some o' => simp only [q2] at h; exact h .non G' H' (R.outs R' S' q2) S' .non
      | ret d =>
        unfold ended endOk at h
        cases q2 : outs as e with
        | none => simp only [q2] at h
        | some o' => simp only [q2] at h; exact fun v rv => h v G' H' (R.outs R' S' q2) S' rv
end
end TD

set_option Elab.async false
set_option linter.all false
set_option maxRecDepth 100000
/-! TP1: operators, comparisons, isinstance. -/
namespace TD
open PySem PySem.Spec PyProof.Rows L2

/-! ### what they give -/
def smallM (i : Int) : Bool := decide (-(2 ^ 64) < i) && decide (i < 2 ^ 64)
def mulOk (i j : Int) : Bool := smallM j || smallM i || decide (i.natAbs.log2 + j.natAbs.log2 < 1000000)
def opD : Operator → D → D → Option D
  | .Add, .int i, .int j => some (.int (i + j))
  | .Add, .str a, .str b => if a.length + b.length ≤ lim then some (.str (a ++ b)) else none
  | .Add, .list a, .list b => if a.length + b.length ≤ lim then some (.list (a ++ b)) else none
  | .Add, .tuple a, .tuple b => if a.length + b.length ≤ lim then some (.tuple (a ++ b)) else none
  | .Sub, .int i, .int j => some (.int (i - j))
  | .Mult, .int i, .int j => if mulOk i j then some (.int (i * j)) else none
  | .Mult, .list a, .int k => if 0 ≤ k ∧ k ≤ 1000 ∧ a.length * k.toNat ≤ lim then some (.list (List.replicate k.toNat a).flatten) else none
  | .Mult, .tuple a, .int k => if 2 ≤ k ∧ k ≤ 90 ∧ 1 ≤ a.length ∧ a.length ≤ 1000 then some (.tuple (List.replicate k.toNat a).flatten) else none
  | .FloorDiv, .int i, .int j => if 0 < j ∧ j.natAbs.log2 < 9000 then some (.int (i / j)) else none
  | .Mod, .int i, .int j => if 0 < j then some (.int (i % j)) else none
  | .Pow, .int i, .int j => if 0 ≤ j ∧ j ≤ 1000 ∧ i.natAbs < 2 ^ 64 then some (.int (i ^ j.toNat)) else none
  | _, _, _ => none
def isNon : D → Bool
  | .none => true
  | _ => false
def inD (x : D) : D → Option Bool
  | .list ds => if SeqAt.shaped x && SeqAt.shaped (.list ds) then some (ds.any fun z => PyData.eqv z x) else none
  | .tuple ds => if SeqAt.shaped x && SeqAt.shaped (.tuple ds) then some (ds.any fun z => PyData.eqv z x) else none
  | .str b => (match x with
    | .str a => some (!(Builtin.Str.occurrences b a 0 b.length 1).isEmpty)
    | _ => none)
  | _ => none
def cmpD : CmpOp → D → D → Option Bool
  | .Eq, a, b => if SeqAt.shaped a && SeqAt.shaped b then some (PyData.eqv a b) else none
  | .NotEq, a, b => if SeqAt.shaped a && SeqAt.shaped b then some (!PyData.eqv a b) else none
  | .Lt, .int i, .int j => some (decide (i < j))
  | .LtE, .int i, .int j => some (decide (i ≤ j))
  | .Gt, .int i, .int j => some (decide (j < i))
  | .GtE, .int i, .int j => some (decide (j ≤ i))
  | .Lt, .str a, .str b => some (decide (a.cps.toList < b.cps.toList))
  | .Lt, a, b => if SeqAt.shaped a && SeqAt.shaped b && PySem.W.alike a b && !isNon a then some (PySem.W.dataLt a b) else none
  | .Is, .bool a, .bool b => some (decide (a = b))
  | .IsNot, .bool a, .bool b => some (!decide (a = b))
  | .Is, a, .none => some (isNon a)
  | .IsNot, a, .none => some (!isNon a)
  | .In, x, c => inD x c
  | .NotIn, x, c => (inD x c).map (!·)
  | _, _, _ => none
def isiD (T : Str) (d : D) : Option Bool :=
  if T == ("int" : Str) then some (match d with | .int _ => true | .bool _ => true | _ => false)
  else if T == ("bool" : Str) then some (match d with | .bool _ => true | _ => false)
  else if T == ("str" : Str) then some (match d with | .str _ => true | _ => false)
  else if T == ("tuple" : Str) then some (match d with | .tuple _ => true | _ => false)
  else if T == ("list" : Str) then some (match d with | .list _ => true | _ => false)
  else none

section
variable {X : Cx} {K : PySem.W.Frag}
/-- nothing new -/
theorem fin0 {G H : Hp} {d : D} {v : V} {Q : VK} (vw : View G H) (q : ∀ v G' H', Grow G H G' H' → Rp K G' v d → Q v H') (r : Rp K G v d) : Q v H := q v G H (Grow.refl vw) r
/-- a new list, a new tuple -/
theorem finL {G H : Hp} {ds : List D} {vs : List V} {Q : VK} {p : Addr} (vw : View G H) (q : ∀ v G' H', Grow G H G' H' → Rp K G' v (.list ds) → Q v H') (r : RpAll K G vs ds) (hl : vs.length ≤ sizeLine) (hp : H p = none) : Q (.ref p) (upd H p (.lst vs)) := by
  have gr : Grow G H (upd G p (.lst vs)) (upd H p (.lst vs)) := Grow.fresh vw hp hl
  exact q _ _ _ gr (.lst upd_same (r.mono gr.sub))
theorem finT {G H : Hp} {ds : List D} {vs : List V} {Q : VK} {p : Addr} (vw : View G H) (q : ∀ v G' H', Grow G H G' H' → Rp K G' v (.tuple ds) → Q v H') (r : RpAll K G vs ds) (hl : vs.length ≤ sizeLine) (hp : H p = none) : Q (.ref p) (upd H p (.tup vs)) := by
  have gr : Grow G H (upd G p (.tup vs)) (upd H p (.tup vs)) := Grow.fresh vw hp hl
  exact q _ _ _ gr (.tup (.inl (.inl upd_same)) (r.mono gr.sub))
theorem strlim {n : Nat} (h : n ≤ lim) : n ≤ sizeLine := lim_line h
theorem RpAll.rep {G : Hp} {vs : List V} {ds : List D} (r : RpAll K G vs ds) : ∀ n : Nat, RpAll K G (List.replicate n vs).flatten (List.replicate n ds).flatten
  | 0 => .nil
  | n + 1 => by
    rw [List.replicate_succ, List.replicate_succ, List.flatten_cons, List.flatten_cons]
    exact r.append (RpAll.rep r n)
theorem rep_len {α : Type} (l : List α) : ∀ n : Nat, (List.replicate n l).flatten.length = l.length * n
  | 0 => rfl
  | n + 1 => by
    rw [List.replicate_succ, List.flatten_cons, List.length_append, rep_len l n, Nat.mul_succ]
    omega
/-! ### operators -/
theorem prim_op (o : Operator) : OpR X (binaryOp o) (r2 X.K (opD o)) := by
  intro pins s σ H v u vv uu Q I rv ru h
  obtain ⟨G, a, b, d, vw, ra, rb, hd, q⟩ := h
  unfold opD at hd
  split at hd
  · cases hd
    rw [ra.toInt] at rv
    rw [rb.toInt] at ru
    exact op_add pins s σ H _ _ vv uu Q I rv ru ⟨_, _, rfl, rfl, fin0 vw q (.int _)⟩
  · rename_i x y
    split at hd
    · rename_i hl
      cases hd
      rw [ra.toStr] at rv
      rw [rb.toStr] at ru
      exact op_add_str pins s σ H _ _ vv uu Q I rv ru ⟨_, _, rfl, rfl, strlim hl, fin0 vw q (.str _)⟩
    · cases hd
  · rename_i xs ys
    split at hd
    · rename_i hl
      cases hd
      obtain ⟨p1, vs, rfl, g1, r1⟩ := ra.toLst
      obtain ⟨p2, us, rfl, g2, r2⟩ := rb.toLst
      have hz : vs.length + us.length ≤ sizeLine := by rw [r1.length, r2.length]; exact strlim hl
      exact op_cat pins s σ H _ _ vv uu Q I rv ru ⟨p1, p2, vs, us, rfl, rfl, vw.sub _ _ g1, vw.sub _ _ g2, hz, fun p hp => finL vw q (r1.append r2) (by rw [List.length_append]; exact hz) hp⟩
    · cases hd
  · rename_i xs ys
    split at hd
    · rename_i hl
      cases hd
      obtain ⟨p1, vs, rfl, g1, r1⟩ := ra.toTup
      obtain ⟨p2, us, rfl, g2, r2⟩ := rb.toTup
      have hz : vs.length + us.length ≤ sizeLine := by rw [r1.length, r2.length]; exact strlim hl
      refine op_catA pins s σ H _ _ vv uu Q I rv ru ⟨p1, p2, vs, us, rfl, rfl, sqT_sub vw.sub g1, sqT_sub vw.sub g2, hz, fun e => ?_, fun _ e => ?_, fun _ _ p hp => finT vw q (r1.append r2) (by rw [List.length_append]; exact hz) hp⟩
      · subst e
        cases r1
        exact fin0 vw q (.tup g2 r2)
      · subst e
        cases r2
        rw [List.append_nil] at q
        exact fin0 vw q (.tup g1 r1)
    · cases hd
  · cases hd
    rw [ra.toInt] at rv
    rw [rb.toInt] at ru
    exact op_sub pins s σ H _ _ vv uu Q I rv ru ⟨_, _, rfl, rfl, fin0 vw q (.int _)⟩
  · rename_i i j
    split at hd
    · rename_i hm
      cases hd
      rw [ra.toInt] at rv
      rw [rb.toInt] at ru
      unfold mulOk smallM at hm
      simp only [Bool.or_eq_true, Bool.and_eq_true, decide_eq_true_eq] at hm
      rcases hm with (hm | hm) | hm
      · exact op_mul pins s σ H _ _ vv uu Q I rv ru ⟨_, _, rfl, rfl, .inr hm, fin0 vw q (.int _)⟩
      · exact op_mul pins s σ H _ _ vv uu Q I rv ru ⟨_, _, rfl, rfl, .inl hm, fin0 vw q (.int _)⟩
      · exact op_mulW pins s σ H _ _ vv uu Q I rv ru ⟨_, _, rfl, rfl, hm, fin0 vw q (.int _)⟩
    · cases hd
  · rename_i xs n
    split at hd
    · rename_i hl
      cases hd
      obtain ⟨p1, vs, rfl, g1, r1⟩ := ra.toLst
      rw [rb.toInt] at ru
      have hz : vs.length * n.toNat ≤ sizeLine := by rw [r1.length]; exact strlim hl.2.2
      exact op_rep pins s σ H _ _ vv uu Q I rv ru ⟨p1, n, vs, rfl, rfl, vw.sub _ _ g1, by omega, by omega, hz, fun p hp => finL vw q (r1.rep _) (by rw [rep_len]; exact hz) hp⟩
    · cases hd
  · rename_i xs n
    split at hd
    · rename_i hl
      cases hd
      obtain ⟨p1, vs, rfl, g1, r1⟩ := ra.toTup
      rw [rb.toInt] at ru
      have hz : vs.length * n.toNat ≤ sizeLine := by
        rw [r1.length]
        have h1 : xs.length * n.toNat ≤ 1000 * 90 := Nat.mul_le_mul hl.2.2.2 (by omega)
        exact strlim (Nat.le_trans h1 (by decide))
      exact op_repT pins s σ H _ _ vv uu Q I rv ru ⟨p1, n, vs, rfl, rfl, sqT_sub vw.sub g1, fun e => by have := r1.length; rw [e] at this; simp at this; omega, by omega, by omega, by rw [r1.length]; omega, fun p hp => finT vw q (r1.rep _) (by rw [rep_len]; exact hz) hp⟩
    · cases hd
  · split at hd
    · rename_i hc
      cases hd
      rw [ra.toInt] at rv
      rw [rb.toInt] at ru
      exact op_fdivW pins s σ H _ _ vv uu Q I rv ru ⟨_, _, rfl, rfl, hc, fin0 vw q (.int _)⟩
    · cases hd
  · split at hd
    · rename_i hc
      cases hd
      rw [ra.toInt] at rv
      rw [rb.toInt] at ru
      exact op_mod pins s σ H _ _ vv uu Q I rv ru ⟨_, _, rfl, rfl, hc, fin0 vw q (.int _)⟩
    · cases hd
  · split at hd
    · rename_i hc
      cases hd
      rw [ra.toInt] at rv
      rw [rb.toInt] at ru
      exact op_pow pins s σ H _ _ vv uu Q I rv ru ⟨_, _, rfl, rfl, ⟨hc.1, by omega, hc.2.2⟩, fin0 vw q (.int _)⟩
    · cases hd
  · cases hd
/-! ### comparisons -/
theorem Rp.nonIff {G : Hp} {v : V} {d : D} (r : Rp K G v d) : decide (v = .non) = isNon d := by
  cases r with
  | non => rfl
  | bl b => rfl
  | int i => rfl
  | str z => rfl
  | lst _ _ => rfl
  | tup _ _ => rfl
  | dct _ => rfl
theorem prim_in (hu : X.A.units + 65 < cLine) {pins : List (Addr × Obj)} {s : Shared} {σ : L2.St} {H G : Hp} {v u : V} {vv uu : Value} {Q : VK} {a b : D} {c : Bool} (I : L2.Inv X pins σ H s) (rv : RelV v vv) (ru : RelV u uu) (vw : View G H) (ra : Rp X.K G v a) (rb : Rp X.K G u b) (h : inD a b = some c) :
    (Q (.bl c) H → wpAny (model X.prog X.w) X.A (compareOp .In vv uu) (EP X pins σ Q) X.xe s) ∧ (Q (.bl (!c)) H → wpAny (model X.prog X.w) X.A (compareOp .NotIn vv uu) (EP X pins σ Q) X.xe s) := by
  unfold inD at h
  split at h
  · rename_i ds
    split at h
    · rename_i hs
      rw [Bool.and_eq_true] at hs
      cases h
      have la := SeqAt.canLay_of_shaped hs.1
      have lb := SeqAt.canLay_of_shaped hs.2
      obtain ⟨as, r1⟩ := Dp.reads I a v vv (ra.dp vw.sub la) rv
      obtain ⟨bs, r2⟩ := Dp.reads I (.list ds) u uu (rb.dp vw.sub lb) ru
      exact ⟨fun q => SeqAt.in_list_reads r2 r1 lb la (room_in_shaped hs.1 hu) ⟨.bl _, H, I, rfl, q⟩, fun q => SeqAt.notIn_list_reads r2 r1 lb la (room_in_shaped hs.1 hu) ⟨.bl _, H, I, rfl, q⟩⟩
    · cases h
  · rename_i ds
    split at h
    · rename_i hs
      rw [Bool.and_eq_true] at hs
      cases h
      have la := SeqAt.canLay_of_shaped hs.1
      have lb := SeqAt.canLay_of_shaped hs.2
      obtain ⟨as, r1⟩ := Dp.reads I a v vv (ra.dp vw.sub la) rv
      obtain ⟨bs, r2⟩ := Dp.reads I (.tuple ds) u uu (rb.dp vw.sub lb) ru
      exact ⟨fun q => SeqAt.in_tuple_reads r2 r1 lb la (room_in_shaped hs.1 hu) ⟨.bl _, H, I, rfl, q⟩, fun q => SeqAt.notIn_tuple_reads r2 r1 lb la (room_in_shaped hs.1 hu) ⟨.bl _, H, I, rfl, q⟩⟩
    · cases h
  · split at h
    · cases h
      rw [ra.toStr] at rv
      rw [rb.toStr] at ru
      exact ⟨fun q => op_in_str pins s σ H _ _ vv uu Q I rv ru ⟨_, _, rfl, rfl, q⟩, fun q => op_notin_str pins s σ H _ _ vv uu Q I rv ru ⟨_, _, rfl, rfl, q⟩⟩
    · cases h
  · cases h
theorem prim_cmp (hr : ∃ k, Room k X.A) (o : CmpOp) : OpR X (compareOp o) (r2 X.K fun a b => (cmpD o a b).map .bool) := by
  intro pins s σ H v u vv uu Q I rv ru h
  obtain ⟨G, a, b, d, vw, ra, rb, hd, q⟩ := h
  obtain ⟨c, hc, ed⟩ : ∃ c, cmpD o a b = some c ∧ d = .bool c := by
    cases hq : cmpD o a b with
    | none => rw [show (fun a b => (cmpD o a b).map PyData.bool) a b = (cmpD o a b).map PyData.bool from rfl, hq] at hd; cases hd
    | some c => rw [show (fun a b => (cmpD o a b).map PyData.bool) a b = (cmpD o a b).map PyData.bool from rfl, hq] at hd; exact ⟨c, rfl, (Option.some.inj hd).symm⟩
  subst ed
  have fin : Q (.bl c) H := fin0 vw q (.bl c)
  obtain ⟨kk, room⟩ := hr
  have hu := room.units
  have hu2 : X.A.units + 65 < cLine := by have := room.un; omega
  unfold cmpD at hc
  split at hc
  · split at hc
    · rename_i hs
      rw [Bool.and_eq_true] at hs
      cases hc
      exact op_eqD hu pins s σ H _ _ vv uu Q I rv ru ⟨_, _, ra.dp vw.sub (SeqAt.canLay_of_shaped hs.1), rb.dp vw.sub (SeqAt.canLay_of_shaped hs.2), hs.1, hs.2, fin⟩
    · cases hc
  · split at hc
    · rename_i hs
      rw [Bool.and_eq_true] at hs
      cases hc
      exact op_neD hu pins s σ H _ _ vv uu Q I rv ru ⟨_, _, ra.dp vw.sub (SeqAt.canLay_of_shaped hs.1), rb.dp vw.sub (SeqAt.canLay_of_shaped hs.2), hs.1, hs.2, fin⟩
    · cases hc
  · cases hc
    rw [ra.toInt] at rv
    rw [rb.toInt] at ru
    exact op_lt pins s σ H _ _ vv uu Q I rv ru ⟨_, _, rfl, rfl, fin⟩
  · cases hc
    rw [ra.toInt] at rv
    rw [rb.toInt] at ru
    exact op_le pins s σ H _ _ vv uu Q I rv ru ⟨_, _, rfl, rfl, fin⟩
  · cases hc
    rw [ra.toInt] at rv
    rw [rb.toInt] at ru
    exact op_gt pins s σ H _ _ vv uu Q I rv ru ⟨_, _, rfl, rfl, fin⟩
  · cases hc
    rw [ra.toInt] at rv
    rw [rb.toInt] at ru
    exact op_ge pins s σ H _ _ vv uu Q I rv ru ⟨_, _, rfl, rfl, fin⟩
  · cases hc
    rw [ra.toStr] at rv
    rw [rb.toStr] at ru
    exact op_lt_str pins s σ H _ _ vv uu Q I rv ru ⟨_, _, rfl, rfl, fin⟩
  · split at hc
    · rename_i hs
      rw [Bool.and_eq_true, Bool.and_eq_true, Bool.and_eq_true] at hs
      obtain ⟨⟨⟨h1, h2⟩, h3⟩, h4⟩ := hs
      cases hc
      obtain ⟨as, r1⟩ := Dp.reads I a v vv (ra.dp vw.sub (SeqAt.canLay_of_shaped h1)) rv
      obtain ⟨bs, r2⟩ := Dp.reads I b u uu (rb.dp vw.sub (SeqAt.canLay_of_shaped h2)) ru
      refine PySem.W.lt_data r1 r2 h3 (fun e => by subst e; cases h4) ?_ ⟨.bl _, H, I, rfl, fin⟩
      unfold SeqAt.shaped at h1
      rw [Bool.and_eq_true, decide_eq_true_eq] at h1
      have := h1.2
      have := Nat.min_le_left a.depth b.depth
      omega
    · cases hc
  · cases hc
    rw [ra.toBl] at rv
    rw [rb.toBl] at ru
    exact op_isBl pins s σ H _ _ vv uu Q I rv ru ⟨_, _, rfl, rfl, fin⟩
  · cases hc
    rw [ra.toBl] at rv
    rw [rb.toBl] at ru
    exact op_notBl pins s σ H _ _ vv uu Q I rv ru ⟨_, _, rfl, rfl, fin⟩
  · cases hc
    exact op_isN pins s σ H _ _ vv uu Q I rv ru ⟨rb.toNon, by rw [ra.nonIff]; exact fin⟩
  · cases hc
    exact op_notN pins s σ H _ _ vv uu Q I rv ru ⟨rb.toNon, by rw [ra.nonIff]; exact fin⟩
  · exact (prim_in hu2 I rv ru vw ra rb hc).1 fin
  · rename_i x0 c0
    cases hq : inD a b with
    | none => rw [hq] at hc; cases hc
    | some c' =>
      rw [hq] at hc
      cases hc
      exact (prim_in hu2 I rv ru vw ra rb hq).2 fin
  · cases hc
/-! ### isinstance -/
def tyName : D → String
  | .none => "NoneType"
  | .bool _ => "bool"
  | .int _ => "int"
  | .str _ => "str"
  | .list _ => "list"
  | .tuple _ => "tuple"
  | .dict _ => "dict"
theorem tyX_of {G H : Hp} {v : V} {d : D} (vw : View G H) (r : Rp K G v d) : TyX K H v (.type (tyName d)) := by
  cases r with
  | non => exact .base .non
  | bl b => exact .base (.bl b)
  | int i => exact .base (.int i)
  | str z => exact .base (.str z)
  | lst h _ => exact .base (.lst (vw.sub _ _ h))
  | tup h _ =>
    rcases h with (h | ⟨o, h⟩) | ⟨o, its, n, h1, h2, _⟩
    · exact .base (.tup (vw.sub _ _ h))
    · exact (vw.vw _ _ h).elim
    · exact .kTuple h1 h2
  | dct h => exact .base (.dK (vw.sub _ _ h))
theorem kits : ∀ T ∈ ["int", "bool", "str", "tuple", "list"], ∀ N ∈ ["NoneType", "bool", "int", "str", "list", "tuple", "dict"], kitB N T = some (N == T || (T == "int" && N == "bool")) := by decide +kernel
theorem tyName_mem (d : D) : tyName d ∈ ["NoneType", "bool", "int", "str", "list", "tuple", "dict"] := by cases d <;> simp [tyName]
theorem prim_isi {mg : Str → Option Value} (hmg : ∀ T ∈ (["int", "bool", "str", "tuple", "list"] : List Str), mg T = none) (T' : Str) (d : D) (b : Bool) (h : isiD T' d = some b) : ∃ tn : String, bootBuiltins T' = some (.type tn) ∧ mg T' = none ∧ T' ≠ "__name__" ∧ (T' == ("__debug__" : Str)) = false ∧
    CallR X (.builtin "isinstance") (fun xs H Q => ∃ v G d b, xs = [v, .ty tn] ∧ View G H ∧ Rp X.K G v d ∧ isiD T' d = some b ∧ Q (.bl b) H) := by
  have key : ∀ tn : String, tn ∈ ["int", "bool", "str", "tuple", "list"] → (∀ d b, isiD T' d = some b → b = (tyName d == tn || (tn == "int" && tyName d == "bool"))) →
      CallR X (.builtin "isinstance") (fun xs H Q => ∃ v G d b, xs = [v, .ty tn] ∧ View G H ∧ Rp X.K G v d ∧ isiD T' d = some b ∧ Q (.bl b) H) := fun tn ht hk => by
    intro pins s σ H xs us Q I r h
    obtain ⟨v, G, d, b, rfl, vw, rv, hb, q⟩ := h
    refine call_isi pins s σ H _ us Q I r ⟨v, .ty tn, .type (tyName d), .type tn, b, rfl, .ty tn, tyX_of vw rv, ?_, q⟩
    rw [hk d b hb]
    exact kit_ty (kits tn ht (tyName d) (tyName_mem d))
  unfold isiD at h
  split at h
  · rename_i e
    obtain rfl := beq_iff_eq.mp e
    exact ⟨"int", by decide +kernel, hmg _ (by simp), by decide, by decide, key "int" (by simp) fun d b hb => by cases hb; cases d <;> rfl⟩
  · split at h
    · rename_i e
      obtain rfl := beq_iff_eq.mp e
      exact ⟨"bool", by decide +kernel, hmg _ (by simp), by decide, by decide, key "bool" (by simp) fun d b hb => by cases hb; cases d <;> rfl⟩
    · split at h
      · rename_i e
        obtain rfl := beq_iff_eq.mp e
        exact ⟨"str", by decide +kernel, hmg _ (by simp), by decide, by decide, key "str" (by simp) fun d b hb => by cases hb; cases d <;> rfl⟩
      · split at h
        · rename_i e
          obtain rfl := beq_iff_eq.mp e
          exact ⟨"tuple", by decide +kernel, hmg _ (by simp), by decide, by decide, key "tuple" (by simp) fun d b hb => by cases hb; cases d <;> rfl⟩
        · split at h
          · rename_i e
            obtain rfl := beq_iff_eq.mp e
            exact ⟨"list", by decide +kernel, hmg _ (by simp), by decide, by decide, key "list" (by simp) fun d b hb => by cases hb; cases d <;> rfl⟩
          · cases h
end
end TD

set_option Elab.async false
set_option linter.all false
set_option maxRecDepth 100000
/-! TP2: sorted, min, max of data. -/
namespace TD
open PySem PySem.Spec PyProof.Rows L2

/-! ### a sort that computes -/
def ins {α : Type} (le : α → α → Bool) (a : α) : List α → List α
  | [] => [a]
  | b :: r => if le a b then a :: b :: r else b :: ins le a r
def isort {α : Type} (le : α → α → Bool) : List α → List α
  | [] => []
  | a :: r => ins le a (isort le r)
theorem ins_mid {α : Type} {le : α → α → Bool} {a : α} {l₂ : List α} (h2 : ∀ b, b ∈ l₂ → le a b = true) : ∀ {l₁ : List α}, (∀ b, b ∈ l₁ → (!le a b) = true) → ins le a (l₁ ++ l₂) = l₁ ++ a :: l₂
  | [], _ => by
    cases l₂ with
    | nil => rfl
    | cons b r => simp only [List.nil_append, ins]; rw [if_pos (h2 b (by simp))]
  | b :: r, h => by
    have hb : le a b = false := by simpa using h b (by simp)
    simp only [List.cons_append, ins]
    rw [if_neg (by rw [hb]; simp), ins_mid h2 fun c hc => h c (by simp [hc])]
theorem isort_eq {α : Type} {le : α → α → Bool} (T : PySem.W.TotalLe le) : ∀ l : List α, l.mergeSort le = isort le l
  | [] => by simp [isort]
  | a :: r => by
    have tot : ∀ a b : α, le a b || le b a := fun a b => by rw [Bool.or_eq_true]; exact T.total a b
    obtain ⟨l₁, l₂, h1, h2, h3⟩ := List.mergeSort_cons T.trans tot a r
    have ps := List.pairwise_mergeSort T.trans tot (a :: r)
    rw [h1] at ps ⊢
    have pa := (List.pairwise_cons.mp (List.pairwise_append.mp ps).2.1).1
    simp only [isort]
    rw [← isort_eq T r, h2, ins_mid pa h3]
theorem ins_map {α β : Type} {f : α → β} {le : β → β → Bool} (a : α) : ∀ l : List α, (ins (fun x y => le (f x) (f y)) a l).map f = ins le (f a) (l.map f)
  | [] => rfl
  | b :: r => by
    simp only [ins, List.map_cons]
    split
    · rfl
    · rw [List.map_cons, ins_map a r]
theorem isort_map {α β : Type} {f : α → β} {le : β → β → Bool} : ∀ l : List α, (isort (fun x y => le (f x) (f y)) l).map f = isort le (l.map f)
  | [] => rfl
  | a :: r => by
    simp only [isort, List.map_cons]
    rw [ins_map, isort_map r]

/-! ### what they give -/
def leD (a b : D) : Bool := !PySem.W.dataLt b a
def alkB (ds : List D) : Bool := ds.all fun a => ds.all fun b => PySem.W.alike a b
def tup1 : D → Bool
  | .tuple (_ :: _) => true
  | _ => false
def noTup : D → Bool
  | .none => false
  | .tuple _ => false
  | _ => true
def sortD (ds : List D) : Option D := if SeqAt.shaped (.list ds) && alkB ds && (ds.all tup1 || ds.all noTup) then some (.list (isort leD ds)) else none
def minmaxD (mx : Bool) (ds : List D) : Option D := match ds with
  | [] => none
  | x :: xs => if SeqAt.shaped (.list ds) && alkB ds && ds.all (fun d => !isNon d) then some (if mx then PySem.W.maxD x xs else PySem.W.minD x xs) else none

theorem alkB_iff {ds : List D} (h : alkB ds = true) : ∀ d, d ∈ ds → ∀ d', d' ∈ ds → PySem.W.alike d d' = true := fun d hd d' hd' => by
  unfold alkB at h
  rw [List.all_eq_true] at h
  have := h d hd
  rw [List.all_eq_true] at this
  exact this d' hd'
theorem sortable_of {ds : List D} (h : (ds.all tup1 || ds.all noTup) = true) : PySem.W.Sortable ds := by
  rw [Bool.or_eq_true, List.all_eq_true, List.all_eq_true] at h
  rcases h with h | h
  · refine .inl fun d hd => ?_
    have := h d hd
    unfold tup1 at this
    split at this
    · exact ⟨_, _, rfl⟩
    · cases this
  · refine .inr fun d hd => ?_
    have := h d hd
    unfold noTup at this
    split at this
    · cases this
    · cases this
    · rename_i h1 h2
      exact ⟨fun e => h1 e, fun xs e => h2 xs e⟩
theorem depth_mem : ∀ {ds : List D} {d : D}, d ∈ ds → d.depth ≤ PyData.depthAll ds
  | [], _, h => by cases h
  | e :: r, d, h => by
    rw [PyData.depthAll]
    rcases List.mem_cons.mp h with rfl | h
    · exact Nat.le_max_left _ _
    · exact Nat.le_trans (depth_mem h) (Nat.le_max_right _ _)
theorem shaped_depth {ds : List D} (h : SeqAt.shaped (.list ds) = true) : PyData.depthAll ds ≤ 63 := by
  unfold SeqAt.shaped at h
  rw [Bool.and_eq_true, decide_eq_true_eq] at h
  have := h.2
  simp only [PyData.depth] at this
  omega
theorem shaped_lay {ds : List D} (h : SeqAt.shaped (.list ds) = true) : PyData.canLayAll0 ds = true := SeqAt.canLay_of_shaped h

/-- values with what they stand for -/
theorem each_of {K : PySem.W.Frag} {G : Hp} : ∀ {vs : List V} {ds : List D} {us : List Value}, RpAll K G vs ds → Vals vs us → PySem.W.EachIs (fun (u : Value) (b : V × D) => RelV b.1 u ∧ Rp K G b.1 b.2) us (vs.zip ds)
  | _, _, _, .nil, .nil => .nil
  | _, _, _, .cons r t, .cons q w => .cons ⟨q, r⟩ (each_of t w)
theorem each_back {K : PySem.W.Frag} {G : Hp} : ∀ {us : List Value} {bs : List (V × D)}, PySem.W.EachIs (fun (u : Value) (b : V × D) => RelV b.1 u ∧ Rp K G b.1 b.2) us bs → Vals (bs.map (·.1)) us ∧ RpAll K G (bs.map (·.1)) (bs.map (·.2))
  | _, _, .nil => ⟨.nil, .nil⟩
  | _, _, .cons ⟨q, r⟩ t => ⟨.cons q (each_back t).1, .cons r (each_back t).2⟩
theorem each_reads {h : Heap} : ∀ {vs : List V} {ds : List D} {us : List Value} {as : List Addr}, vs.length = ds.length → ReadsAll h us ds as → PySem.W.EachIs (fun (u : Value) (b : V × D) => ∃ as, Reads h u b.2 as) us (vs.zip ds)
  | [], [], _, _, _, .nil => .nil
  | v :: vs, d :: ds, _, _, e, .cons r t => .cons ⟨_, r⟩ (each_reads (by simpa using e) t)
theorem zip_snd : ∀ {vs : List V} {ds : List D}, vs.length = ds.length → (vs.zip ds).map (·.2) = ds
  | [], [], _ => rfl
  | _ :: vs, d :: ds, e => by simp [zip_snd (vs := vs) (ds := ds) (by simpa using e)]

section
variable {prog : Program} {w : World} {A : Around} {E : Value → Shared → Prop} {s : Shared}
/-- what sorted gathers of a tuple -/
theorem collect_tup {l : Addr} {vs : List Value} {Q : List Value → Shared → Prop} (hl : IsTup s.heap l vs.toArray)
    (h : Q vs { s with heap := (s.heap.push (seqObj "list" #[] 0)).update s.heap.objs.size (Obj.mapSeq (· ++ vs.toArray)) }) (hsz : vs.length ≤ sizeLine) :
    wpAny (model prog w) A (collect (.ref l)) Q E s := by
  obtain ⟨o, ho, hc, n, hd⟩ := id hl
  unfold collect
  refine wpAny_bind (wpAny_runValue (codeAny_builtin entry_proto_collect' ?_))
  show wpAny _ _ (do again (.builtin "list.__iadd__" ⟨[← newList [], .ref l], []⟩)) _ _ s
  refine wpAny_bind (wpAny_newList (wpAny_pure ⟨Code.quiet_builtin _ (by decide +kernel), codeAny_builtin entry_list_iadd' ?_⟩))
  show wpAny _ _ (Builtin.List.listExtendWith (.ref s.heap.objs.size) (.ref l) (.ref s.heap.objs.size)) _ _ { s with heap := s.heap.push (seqObj "list" #[] 0) }
  unfold Builtin.List.listExtendWith
  have ho' : (s.heap.push (seqObj "list" #[] 0)).get? l = some o := Heap.get?_push_of_some _ ho
  refine wpAny_bind (wpAny_typeOf (T := "tuple") ⟨o, ho', hc⟩ ?_)
  have ht : (Value.type "tuple" == Value.type "tuple") = true := by rfl
  rw [if_pos (by rw [ht]; simp)]
  refine wpAny_bind (listItems_at ho' hd ?_)
  refine wpAny_bind (listItems_at (xs := #[]) (n := 0) (Heap.get?_push_size _ rfl) rfl ?_)
  rw [if_neg (by simp)]
  refine wpAny_bind (listUpdate_at (xs := #[]) (n := 0) (Heap.get?_push_size _ rfl) rfl ?_ (Nat.zero_le _) (by show (#[] ++ vs.toArray).size ≤ sizeLine + 1; simp only [Array.size_append, List.size_toArray, List.length_nil]; omega))
  refine wpAny_pure ?_
  show wpAny (model prog w) A (do
      let o ← load s.heap.objs.size
      match o.data with
      | .seq xs _ => pure xs.toList
      | _ => unsupported "internal:collect") Q E { s with heap := (s.heap.push (seqObj "list" #[] 0)).update s.heap.objs.size (Obj.mapSeq (· ++ vs.toArray)) }
  refine wpAny_bind (wpAny_load (get?_update_seq (Heap.get?_push_size _ rfl) _) ?_)
  show wpAny _ _ (pure ((#[] : Array Value) ++ vs.toArray).toList) Q E _
  rw [show ((#[] : Array Value) ++ vs.toArray).toList = vs by simp]
  exact wpAny_pure h
theorem sorted_tup {κ : KeyKind} {l : Addr} {vs : List Value} {Q : Value → Shared → Prop} (hl : IsTup s.heap l vs.toArray) (S : PySem.W.SortsAt prog w A.in1.in1 { s with heap := PySem.W.sortingHeap (PySem.W.copyHeap s.heap vs) (s.heap.objs.size + 1) vs } κ vs) (hL : vs.length ≤ sizeLine)
    (h : Q (.ref (s.heap.objs.size + 1)) { s with heap := sortedAll s.heap vs (PySem.W.sortVals κ false vs vs).toArray }) : wpAny (model prog w) A (call (.builtin "sorted") [.ref l]) Q E s := by
  refine Calls.call_function_entry kind_sorted plain_sorted entry_sorted (args_sorted1 _) ?_
  unfold Builtin.«sorted»
  refine wpAny_bind (m := checkCount "sorted" 1 1 _) (wpAny_pure ?_)
  refine wpAny_bind (collect_tup hl ?_ hL)
  refine wpAny_bind (wpAny_newList ?_ hL)
  have hsz : ((s.heap.push (seqObj "list" #[] 0)).update s.heap.objs.size (Obj.mapSeq (· ++ vs.toArray))).objs.size = s.heap.objs.size + 1 := by
    rw [Heap.size_update, size_push']
  show wpAny _ _ _ _ _ { s with heap := PySem.W.copyHeap s.heap vs }
  rw [hsz]
  refine wpAny_bind (wpAny_holding (wpAny_call_entry slot_list_sort ⟨_, PySem.W.copyHeap_at s.heap vs, rfl⟩ entry_list_sort ?body (args_list_sort _)))
  case body =>
    exact PySem.W.list_sort_vals (s := { s with heap := PySem.W.copyHeap s.heap vs }) (PySem.W.copyHeap_at s.heap vs) S hL ⟨_, rfl, wpAny_pure ⟨_, rfl, h⟩⟩
end
section
variable {X : Cx}
theorem isort_data {vs : List V} {ds : List D} (e : vs.length = ds.length) : ((vs.zip ds).mergeSort (PySem.W.dataLe false fun b : V × D => b.2)).map (·.2) = isort leD ds := by
  have h : PySem.W.dataLe false (fun b : V × D => b.2) = fun x y => leD x.2 y.2 := by
    rw [PySem.W.dataLe_eq]
    rfl
  have T : PySem.W.TotalLe (PySem.W.dataLe false fun b : V × D => b.2) := PySem.W.sortLe_total _ _ _
  rw [isort_eq T]
  show (isort (PySem.W.dataLe false fun b : V × D => b.2) (vs.zip ds)).map (·.2) = isort leD ds
  rw [h, isort_map (f := fun b : V × D => b.2) (le := leD), zip_snd e]
theorem prim_sorted (hr : ∃ k, Room k X.A) {pins : List (Addr × Obj)} {s : Shared} {σ : L2.St} {H G : Hp} {a : Addr} {xs : List V} {ds : List D} {d : D} {Q : VK} (I : L2.Inv X pins σ H s) (vw : View G H) (hq : G a = some (.lst xs) ∨ SqT X.K G a xs) (ra : RpAll X.K G xs ds) (h : sortD ds = some d)
    (q : ∀ v G' H', Grow G H G' H' → Rp X.K G' v d → Q v H') : wpAny (model X.prog X.w) X.A (call (.builtin "sorted") [.ref a]) (EP X pins σ Q) X.xe s := by
  obtain ⟨kk, room⟩ := hr
  have hu : X.A.units + 65 < cLine := by have := room.un; omega
  unfold sortD at h
  split at h
  · rename_i hc
    cases h
    rw [Bool.and_eq_true, Bool.and_eq_true] at hc
    obtain ⟨⟨h1, h2⟩, h3⟩ := hc
    have dp := ra.dp vw.sub (shaped_lay h1)
    have el := ra.length
    have hal : PySem.W.AllAlike ((xs.zip ds).map fun b => b.2) := by rw [zip_snd el]; exact alkB_iff h2
    have hsb : PySem.W.Sortable ((xs.zip ds).map fun b => b.2) := by rw [zip_snd el]; exact sortable_of h3
    have hun : ∀ b, b ∈ xs.zip ds → X.A.units + 2 + b.2.depth < cLine := fun b hb => by
      have := depth_mem (List.of_mem_zip (a := b.1) (b := b.2) hb).2
      have := shaped_depth h1
      omega
    have fin : ∀ (its out : List Value), xs.length ≤ sizeLine → out.length = (xs.zip ds).length → PySem.W.EachIs (fun (u : Value) (b : V × D) => RelV b.1 u ∧ Rp X.K G b.1 b.2) out ((xs.zip ds).mergeSort (PySem.W.dataLe false fun b => b.2)) →
        EP X pins σ Q (.ref (s.heap.objs.size + 1)) { s with heap := sortedAll s.heap its out.toArray } := fun its out hz ho e => by
      obtain ⟨e1, e2⟩ := each_back e
      rw [isort_data el] at e2
      obtain ⟨ep, he'⟩ := sortedAll_at s.heap its out.toArray
      have hlen : (((xs.zip ds).mergeSort (PySem.W.dataLe false fun b => b.2)).map (·.1)).length ≤ sizeLine := by
        rw [List.length_map, List.length_mergeSort, List.length_zip, ← el, Nat.min_self]
        exact hz
      have hf := I.hok.fresh (Nat.le_succ s.heap.objs.size)
      refine ⟨.ref _, upd H (s.heap.objs.size + 1) (.lst _), I.laid (t' := s.toks) (fun _ _ => sortedAll_old) (Nat.le_succ _) ⟨hlen, out, ep, e1, he'⟩, rfl, ?_⟩
      exact finL vw q e2 hlen hf
    rcases hq with hq | hq
    · obtain ⟨its, rv, hl, hz⟩ := I.list (.inl (.inl (vw.sub _ _ hq)))
      obtain ⟨as, rd⟩ := Dp.readsAll I ds xs its dp rv
      exact PySem.W.sorted_data (enc := fun b : V × D => b.2) hl.isList (each_of ra rv) (each_reads el rd) hal hsb (by rw [List.length_zip, ← el, Nat.min_self]; exact hz) hun fun out ho e => fin its out hz ho e
    · obtain ⟨its, rv, hl, hz⟩ := I.tuple (sqT_sub vw.sub hq)
      obtain ⟨as, rd⟩ := Dp.readsAll I ds xs its dp rv
      have er := each_reads (vs := xs) el rd
      have er' : PySem.W.EachIs (fun (v : Value) (b : V × D) => ∃ as, Reads (PySem.W.sortingHeap (PySem.W.copyHeap s.heap its) (s.heap.objs.size + 1) its) v b.2 as) its (xs.zip ds) := er.mono fun _ _ ⟨as, r⟩ => ⟨as, Reads.keeps (fun _ _ => PySem.W.sorting_copy_old) r⟩
      refine sorted_tup hl (PySem.W.SortsAt.data (s := { s with heap := PySem.W.sortingHeap (PySem.W.copyHeap s.heap its) (s.heap.objs.size + 1) its }) (PySem.W.each_map (R := fun v d => ∃ as, Reads (PySem.W.sortingHeap (PySem.W.copyHeap s.heap its) (s.heap.objs.size + 1) its) v d as) (fun b : V × D => b.2) er') hal hsb (PySem.W.bound_map hun)) (by rw [← rv.length]; exact hz) ?_
      refine fin its _ hz ?_ (PySem.W.sortVals_data false (each_of ra rv) er' hal)
      rw [PySem.W.sortVals_length false rfl]
      exact (each_of ra rv).length
  · cases h
end
end TD

set_option Elab.async false
set_option linter.all false
set_option maxRecDepth 100000
/-! TP3: builtins called by name. -/
namespace TD
open PySem PySem.Spec PyProof.Rows L2

def boolsOf : List D → Option (List Bool)
  | [] => some []
  | .bool b :: r => (boolsOf r).map (b :: ·)
  | _ => none
def intsOf : List D → Option (List Int)
  | [] => some []
  | .int b :: r => (intsOf r).map (b :: ·)
  | _ => none
def lenD : List D → Option D
  | [.list ds] => some (.int ds.length)
  | [.tuple ds] => some (.int ds.length)
  | [.str z] => if z.length ≤ lim then some (.int z.length) else none
  | _ => none
def allD : List D → Option D
  | [.list ds] => (boolsOf ds).map fun bs => .bool (bs.all id)
  | _ => none
def anyD : List D → Option D
  | [.list ds] => (boolsOf ds).map fun bs => .bool (bs.any id)
  | _ => none
def sortedD : List D → Option D
  | [.list ds] => sortD ds
  | [.tuple ds] => sortD ds
  | _ => none
def maxmD : List D → Option D
  | [.list ds] => minmaxD true ds
  | [.tuple ds] => minmaxD true ds
  | [.int i, .int j] => some (.int (if j > i then j else i))
  | [.str x, .str y] => some (.str (if y.cps.toList > x.cps.toList then y else x))
  | _ => none
def minmD : List D → Option D
  | [.list ds] => minmaxD false ds
  | [.tuple ds] => minmaxD false ds
  | [.int i, .int j] => some (.int (if j < i then j else i))
  | [.str x, .str y] => some (.str (if y.cps.toList < x.cps.toList then y else x))
  | _ => none
def tupD : List D → Option D
  | [.list ds] => some (.tuple ds)
  | [.tuple ds] => some (.tuple ds)
  | _ => none
def lstD : List D → Option D
  | [.list ds] => some (.list ds)
  | [.tuple ds] => some (.list ds)
  | _ => none
def sumD : List D → Option D
  | [.list ds] => (intsOf ds).map fun bs => .int bs.sum
  | _ => none
def intD : List D → Option D
  | [.int i] => some (.int i)
  | [.bool b] => some (.int (if b then 1 else 0))
  | _ => none

theorem bools_rp {K : PySem.W.Frag} {G : Hp} : ∀ {vs : List V} {ds : List D} {bs : List Bool}, RpAll K G vs ds → boolsOf ds = some bs → vs = bs.map V.bl
  | _, _, _, .nil, h => by cases h; rfl
  | _, _, _, .cons (d := d) (ds := ds) r t, h => by
    cases d with
    | bool b =>
      unfold boolsOf at h
      cases q : boolsOf ds with
      | none => rw [q] at h; cases h
      | some bs' =>
        rw [q] at h
        cases h
        rw [r.toBl, bools_rp t q, List.map_cons]
    | _ => cases h
theorem ints_rp {K : PySem.W.Frag} {G : Hp} : ∀ {vs : List V} {ds : List D} {bs : List Int}, RpAll K G vs ds → intsOf ds = some bs → vs = bs.map V.int
  | _, _, _, .nil, h => by cases h; rfl
  | _, _, _, .cons (d := d) (ds := ds) r t, h => by
    cases d with
    | int b =>
      unfold intsOf at h
      cases q : intsOf ds with
      | none => rw [q] at h; cases h
      | some bs' =>
        rw [q] at h
        cases h
        rw [r.toInt, ints_rp t q, List.map_cons]
    | _ => cases h
theorem foldl_mem {α : Type} {f : α → α → α} (hf : ∀ a y, f a y = a ∨ f a y = y) : ∀ (xs : List α) (x : α), xs.foldl f x ∈ x :: xs
  | [], x => by simp
  | y :: r, x => by
    rw [List.foldl_cons]
    rcases List.mem_cons.mp (foldl_mem hf r (f x y)) with e | e
    · rw [e]
      rcases hf x y with e2 | e2 <;> rw [e2] <;> simp
    · exact List.mem_cons_of_mem _ (List.mem_cons_of_mem _ e)
theorem minD_mem (x : D) (xs : List D) : PySem.W.minD x xs ∈ x :: xs := foldl_mem (fun a y => by
  show (if _ then _ else _) = _ ∨ _
  split
  · exact .inr rfl
  · exact .inl rfl) xs x
theorem maxD_mem (x : D) (xs : List D) : PySem.W.maxD x xs ∈ x :: xs := foldl_mem (fun a y => by
  show (if _ then _ else _) = _ ∨ _
  split
  · exact .inr rfl
  · exact .inl rfl) xs x

/-! ### the greater and the lesser of two texts -/
def strLt : Value → Value → Bool
  | .str a _, .str b _ => decide (a.cps.toList < b.cps.toList)
  | _, _ => false
def IsStr (v : Value) : Prop := ∃ x t, v = .str x t
theorem cmpOf_strlt {prog : Program} {w : World} {A : Around} (vs : Array Value) (hn : ∀ v ∈ vs, IsStr v) :
    CmpOf prog w A .Lt (fun i v => vs[i]? = some v) (fun i j => strLt (vs.getD i .none) (vs.getD j .none)) := fun i j vi vj s Q E hi hj h => by
  have e1 : vs.getD i .none = vi := by simp [Array.getD_eq_getD_getElem?, hi]
  have e2 : vs.getD j .none = vj := by simp [Array.getD_eq_getD_getElem?, hj]
  simp only [e1, e2] at h
  obtain ⟨x, t, rfl⟩ := hn _ (Array.mem_of_getElem? hi)
  obtain ⟨y, u, rfl⟩ := hn _ (Array.mem_of_getElem? hj)
  exact P.lt_str h
theorem cmpOf_strgt {prog : Program} {w : World} {A : Around} (vs : Array Value) (hn : ∀ v ∈ vs, IsStr v) :
    CmpOf prog w A .Gt (fun i v => vs[i]? = some v) (fun i j => strLt (vs.getD j .none) (vs.getD i .none)) := fun i j vi vj s Q E hi hj h => by
  have e1 : vs.getD i .none = vi := by simp [Array.getD_eq_getD_getElem?, hi]
  have e2 : vs.getD j .none = vj := by simp [Array.getD_eq_getD_getElem?, hj]
  simp only [e1, e2] at h
  obtain ⟨x, t, rfl⟩ := hn _ (Array.mem_of_getElem? hi)
  obtain ⟨y, u, rfl⟩ := hn _ (Array.mem_of_getElem? hj)
  exact P.gt_str h
theorem max_two_str {prog : Program} {w : World} {A : Around} {E : Value → Shared → Prop} {s : Shared} {Q : Value → Shared → Prop} {a b : Value} (hh : A.handled = none) (ha : IsStr a) (hb : IsStr b)
    (h : ∀ h' tk, (∀ c o, s.heap.get? c = some o → h'.get? c = some o) → Q (if strLt a b then b else a) { s with heap := h', toks := tk }) :
    wpAny (model prog w) A (call (.builtin "max") [a, b]) Q E s := by
  have hT : (s.heap.push { cls := .type "tuple", data := .seq #[a, b] }).IsTuple s.heap.objs.size #[a, b] := ⟨_, Heap.get?_push_size _ rfl, rfl, 0, rfl⟩
  refine call_max_two (wpAny_pyIter_tuple hT ?_)
  have hsz : (s.heap.push { cls := .type "tuple", data := .seq #[a, b] }).objs.size = s.heap.objs.size + 1 := Heap.size_push ..
  refine ⟨_, [_, s.heap.objs.size], [_], _, _, _, _, rfl, Walks.tuple (A := A.in1) hh _ s.heap.objs.size (by rw [hsz]; exact Nat.ne_of_lt (Nat.lt_succ_self _)) #[a, b],
    ⟨⟨_, Heap.get?_push_size _ rfl, rfl, rfl⟩, hT.push _⟩, fun c hc => ?_, by simp, cmpOf_strgt #[a, b] (by simp [ha, hb]), fun v h' tk hP hk => ?_⟩
  · show c < ((s.heap.push _).push _).objs.size
    rw [Heap.size_push, hsz]
    rcases List.mem_cons.mp hc with rfl | hc
    · rw [hsz]; exact Nat.lt_succ_self _
    · rcases List.mem_cons.mp hc with rfl | hc
      · exact Nat.lt_succ_of_lt (Nat.lt_succ_self _)
      · cases hc
  · have hold : ∀ c o, s.heap.get? c = some o → h'.get? c = some o := fun c o e => by
      refine hk c o (fun hm => ?_) (Heap.get?_push_of_some _ (Heap.get?_push_of_some _ e))
      rcases List.mem_cons.mp hm with e1 | hm
      · have := Heap.lt_size e; rw [e1, hsz] at this; exact Nat.lt_irrefl _ (Nat.lt_of_succ_lt this)
      · cases hm
    have := h h' tk hold
    have hv : v = if strLt a b then b else a := by
      cases hc : strLt a b <;> simp [argBest, hc] at hP <;> simp [hP]
    rw [hv]; exact this
theorem min_two_str {prog : Program} {w : World} {A : Around} {E : Value → Shared → Prop} {s : Shared} {Q : Value → Shared → Prop} {a b : Value} (hh : A.handled = none) (ha : IsStr a) (hb : IsStr b)
    (h : ∀ h' tk, (∀ c o, s.heap.get? c = some o → h'.get? c = some o) → Q (if strLt b a then b else a) { s with heap := h', toks := tk }) :
    wpAny (model prog w) A (call (.builtin "min") [a, b]) Q E s := by
  have hT : (s.heap.push { cls := .type "tuple", data := .seq #[a, b] }).IsTuple s.heap.objs.size #[a, b] := ⟨_, Heap.get?_push_size _ rfl, rfl, 0, rfl⟩
  refine call_min_two (wpAny_pyIter_tuple hT ?_)
  have hsz : (s.heap.push { cls := .type "tuple", data := .seq #[a, b] }).objs.size = s.heap.objs.size + 1 := Heap.size_push ..
  refine ⟨_, [_, s.heap.objs.size], [_], _, _, _, _, rfl, Walks.tuple (A := A.in1) hh _ s.heap.objs.size (by rw [hsz]; exact Nat.ne_of_lt (Nat.lt_succ_self _)) #[a, b],
    ⟨⟨_, Heap.get?_push_size _ rfl, rfl, rfl⟩, hT.push _⟩, fun c hc => ?_, by simp, cmpOf_strlt #[a, b] (by simp [ha, hb]), fun v h' tk hP hk => ?_⟩
  · show c < ((s.heap.push _).push _).objs.size
    rw [Heap.size_push, hsz]
    rcases List.mem_cons.mp hc with rfl | hc
    · rw [hsz]; exact Nat.lt_succ_self _
    · rcases List.mem_cons.mp hc with rfl | hc
      · exact Nat.lt_succ_of_lt (Nat.lt_succ_self _)
      · cases hc
  · have hold : ∀ c o, s.heap.get? c = some o → h'.get? c = some o := fun c o e => by
      refine hk c o (fun hm => ?_) (Heap.get?_push_of_some _ (Heap.get?_push_of_some _ e))
      rcases List.mem_cons.mp hm with e1 | hm
      · have := Heap.lt_size e; rw [e1, hsz] at this; exact Nat.lt_irrefl _ (Nat.lt_of_succ_lt this)
      · cases hm
    have := h h' tk hold
    have hv : v = if strLt b a then b else a := by
      cases hc : strLt b a <;> simp [argBest, hc] at hP <;> simp [hP]
    rw [hv]; exact this
section
variable {X : Cx}
theorem call_max2s (hc : X.calm = true) : CallR X (.builtin "max") (fun xs H Q => ∃ x y, xs = [.str x, .str y] ∧ Q (.str (if y.cps.toList > x.cps.toList then y else x)) H) := by
  intro pins s σ H xs us Q I r h
  obtain ⟨x, y, rfl, q⟩ := h
  obtain ⟨u, w', rfl, ⟨t, rfl⟩, ⟨t', rfl⟩⟩ := vals2 r
  refine max_two_str (I.ok.hd hc) ⟨_, _, rfl⟩ ⟨_, _, rfl⟩ fun h' tk k => ⟨_, H, I.kept k, ?_, q⟩
  by_cases hj : y.cps.toList > x.cps.toList
  · rw [if_pos hj, if_pos (show strLt (.str x t) (.str y t') = true from decide_eq_true hj)]; exact ⟨_, rfl⟩
  · rw [if_neg hj, if_neg (show ¬ strLt (.str x t) (.str y t') = true from fun e => hj (of_decide_eq_true e))]; exact ⟨_, rfl⟩
theorem call_min2s (hc : X.calm = true) : CallR X (.builtin "min") (fun xs H Q => ∃ x y, xs = [.str x, .str y] ∧ Q (.str (if y.cps.toList < x.cps.toList then y else x)) H) := by
  intro pins s σ H xs us Q I r h
  obtain ⟨x, y, rfl, q⟩ := h
  obtain ⟨u, w', rfl, ⟨t, rfl⟩, ⟨t', rfl⟩⟩ := vals2 r
  refine min_two_str (I.ok.hd hc) ⟨_, _, rfl⟩ ⟨_, _, rfl⟩ fun h' tk k => ⟨_, H, I.kept k, ?_, q⟩
  by_cases hj : y.cps.toList < x.cps.toList
  · rw [if_pos hj, if_pos (show strLt (.str y t') (.str x t) = true from decide_eq_true hj)]; exact ⟨_, rfl⟩
  · rw [if_neg hj, if_neg (show ¬ strLt (.str y t') (.str x t) = true from fun e => hj (of_decide_eq_true e))]; exact ⟨_, rfl⟩
end

section
variable {X : Cx}
theorem RpAll.one {K : PySem.W.Frag} {G : Hp} {vs : List V} {d : D} (h : RpAll K G vs [d]) : ∃ v, vs = [v] ∧ Rp K G v d := by
  cases h with
  | cons r t => cases t; exact ⟨_, rfl, r⟩
theorem RpAll.two {K : PySem.W.Frag} {G : Hp} {vs : List V} {d e : D} (h : RpAll K G vs [d, e]) : ∃ v u, vs = [v, u] ∧ Rp K G v d ∧ Rp K G u e := by
  cases h with
  | cons r t =>
    obtain ⟨u, rfl, q⟩ := t.one
    exact ⟨_, _, rfl, r, q⟩
theorem prim_len : CallR X (.builtin "len") (rN X.K lenD) := by
  intro pins s σ H xs us Q I r h
  obtain ⟨G, as, d, vw, ra, hd, q⟩ := h
  unfold lenD at hd
  split at hd
  · cases hd
    obtain ⟨v, rfl, rv⟩ := ra.one
    obtain ⟨a, vs, rfl, g, r1⟩ := rv.toLst
    exact call_len_seq pins s σ H _ us Q I r ⟨a, vs, rfl, .inl (.inl (.inl (vw.sub _ _ g))), by rw [r1.length]; exact fin0 vw q (.int _)⟩
  · cases hd
    obtain ⟨v, rfl, rv⟩ := ra.one
    obtain ⟨a, vs, rfl, g, r1⟩ := rv.toTup
    exact call_len_seq pins s σ H _ us Q I r ⟨a, vs, rfl, .inr (sqT_sub vw.sub g), by rw [r1.length]; exact fin0 vw q (.int _)⟩
  · split at hd
    · rename_i hz
      cases hd
      obtain ⟨v, rfl, rv⟩ := ra.one
      rw [rv.toStr] at r
      exact call_len_str pins s σ H _ us Q I r ⟨_, rfl, strlim hz, fin0 vw q (.int _)⟩
    · cases hd
  · cases hd
theorem prim_all (hc : X.calm = true) : CallR X (.builtin "all") (rN X.K allD) := by
  intro pins s σ H xs us Q I r h
  obtain ⟨G, as, d, vw, ra, hd, q⟩ := h
  unfold allD at hd
  split at hd
  · rename_i ds
    obtain ⟨v, rfl, rv⟩ := ra.one
    obtain ⟨a, vs, rfl, g, r1⟩ := rv.toLst
    cases hb : boolsOf ds with
    | none => rw [hb] at hd; cases hd
    | some bs =>
      rw [hb] at hd
      cases hd
      have e := bools_rp r1 hb
      subst e
      exact cr_all hc pins s σ H _ us Q I r ⟨a, bs, rfl, .inl (.inl (vw.sub _ _ g)), fin0 vw q (.bl _)⟩
  · cases hd
theorem prim_any (hc : X.calm = true) : CallR X (.builtin "any") (rN X.K anyD) := by
  intro pins s σ H xs us Q I r h
  obtain ⟨G, as, d, vw, ra, hd, q⟩ := h
  unfold anyD at hd
  split at hd
  · rename_i ds
    obtain ⟨v, rfl, rv⟩ := ra.one
    obtain ⟨a, vs, rfl, g, r1⟩ := rv.toLst
    cases hb : boolsOf ds with
    | none => rw [hb] at hd; cases hd
    | some bs =>
      rw [hb] at hd
      cases hd
      have e := bools_rp r1 hb
      subst e
      exact cr_any hc pins s σ H _ us Q I r ⟨a, bs, rfl, .inl (.inl (vw.sub _ _ g)), fin0 vw q (.bl _)⟩
  · cases hd
theorem prim_sum (hc : X.calm = true) : CallR X (.builtin "sum") (rN X.K sumD) := by
  intro pins s σ H xs us Q I r h
  obtain ⟨G, as, d, vw, ra, hd, q⟩ := h
  unfold sumD at hd
  split at hd
  · rename_i ds
    obtain ⟨v, rfl, rv⟩ := ra.one
    obtain ⟨a, vs, rfl, g, r1⟩ := rv.toLst
    cases hb : intsOf ds with
    | none => rw [hb] at hd; cases hd
    | some bs =>
      rw [hb] at hd
      cases hd
      have e := ints_rp r1 hb
      subst e
      exact cr_sum hc pins s σ H _ us Q I r ⟨a, bs, rfl, .inl (.inl (vw.sub _ _ g)), fin0 vw q (.int _)⟩
  · cases hd
theorem prim_srt (hr : ∃ k, Room k X.A) : CallR X (.builtin "sorted") (rN X.K sortedD) := by
  intro pins s σ H xs us Q I r h
  obtain ⟨G, as, d, vw, ra, hd, q⟩ := h
  unfold sortedD at hd
  split at hd
  · obtain ⟨v, rfl, rv⟩ := ra.one
    obtain ⟨a, vs, rfl, g, r1⟩ := rv.toLst
    rw [Vals.ref1 r]
    exact prim_sorted hr I vw (.inl g) r1 hd q
  · obtain ⟨v, rfl, rv⟩ := ra.one
    obtain ⟨a, vs, rfl, g, r1⟩ := rv.toTup
    rw [Vals.ref1 r]
    exact prim_sorted hr I vw (.inr g) r1 hd q
  · cases hd
theorem prim_tuple : CallR X (.type "tuple") (rN X.K tupD) := by
  intro pins s σ H xs us Q I r h
  obtain ⟨G, as, d, vw, ra, hd, q⟩ := h
  unfold tupD at hd
  split at hd
  · cases hd
    obtain ⟨v, rfl, rv⟩ := ra.one
    obtain ⟨a, vs, rfl, g, r1⟩ := rv.toLst
    exact call_tuple_of pins s σ H _ us Q I r ⟨a, vs, rfl, .inl ⟨.inl (.inl (vw.sub _ _ g)), fun l hl => finT vw q r1 (vw.vw _ _ g) hl⟩⟩
  · cases hd
    obtain ⟨v, rfl, rv⟩ := ra.one
    obtain ⟨a, vs, rfl, g, r1⟩ := rv.toTup
    exact call_tuple_of pins s σ H _ us Q I r ⟨a, vs, rfl, .inr ⟨sqT_sub vw.sub g, fin0 vw q (.tup g r1)⟩⟩
  · cases hd
theorem prim_list : CallR X (.type "list") (rN X.K lstD) := by
  intro pins s σ H xs us Q I r h
  obtain ⟨G, as, d, vw, ra, hd, q⟩ := h
  unfold lstD at hd
  split at hd
  · cases hd
    obtain ⟨v, rfl, rv⟩ := ra.one
    obtain ⟨a, vs, rfl, g, r1⟩ := rv.toLst
    exact call_list_of pins s σ H _ us Q I r ⟨a, vs, rfl, .inl (.inl (.inl (vw.sub _ _ g))), fun l hl => finL vw q r1 (vw.vw _ _ g) hl⟩
  · cases hd
    obtain ⟨v, rfl, rv⟩ := ra.one
    have hz := vw.tup rv
    obtain ⟨a, vs, rfl, g, r1⟩ := rv.toTup
    exact call_list_of pins s σ H _ us Q I r ⟨a, vs, rfl, .inr (sqT_sub vw.sub g), fun l hl => finL vw q r1 (by rw [r1.length]; exact hz) hl⟩
  · cases hd
theorem prim_int : CallR X (.type "int") (rN X.K intD) := by
  intro pins s σ H xs us Q I r h
  obtain ⟨G, as, d, vw, ra, hd, q⟩ := h
  unfold intD at hd
  split at hd
  · cases hd
    obtain ⟨v, rfl, rv⟩ := ra.one
    rw [rv.toInt] at r
    exact call_int1 pins s σ H _ us Q I r (.inl ⟨_, rfl, fin0 vw q (.int _)⟩)
  · cases hd
    obtain ⟨v, rfl, rv⟩ := ra.one
    rw [rv.toBl] at r
    exact call_int1 pins s σ H _ us Q I r (.inr ⟨_, rfl, fin0 vw q (.int _)⟩)
  · cases hd
theorem vals_back : ∀ {xs : List V} {us : List Value}, Vals xs us → ∀ {i : Nat} {u : Value}, us[i]? = some u → ∃ x, xs[i]? = some x ∧ RelV x u
  | _, _, .nil, i, u, e => by simp at e
  | _, _, .cons r t, 0, u, e => by simp at e; subst e; exact ⟨_, rfl, r⟩
  | _, _, .cons r t, i + 1, u, e => by
    obtain ⟨x, h1, h2⟩ := vals_back t (i := i) (u := u) (by simpa using e)
    exact ⟨x, by simpa using h1, h2⟩
theorem reads_get {h : Heap} : ∀ {us : List Value} {ds : List D} {as : List Addr}, ReadsAll h us ds as → ∀ {i : Nat} {u : Value} {d : D}, us[i]? = some u → ds[i]? = some d → ∃ as, Reads h u d as
  | _, _, _, .nil, i, u, d, e, _ => by simp at e
  | _, _, _, .cons r t, 0, u, d, e, e' => by simp at e e'; subst e e'; exact ⟨_, r⟩
  | _, _, _, .cons r t, i + 1, u, d, e, e' => reads_get t (i := i) (by simpa using e) (by simpa using e')
/-- the item itself -/
theorem pick_item {K : PySem.W.Frag} {G : Hp} {h h' : Heap} {xs : List V} {ds : List D} {its : List Value} {as bs : List Addr} {i : Nat} {u : Value} {m : D} (ra : RpAll K G xs ds) (rv : Vals xs its) (rd : ReadsAll h its ds as) (kp : ∀ b o, h.get? b = some o → h'.get? b = some o)
    (hi : its[i]? = some u) (rm : Reads h' u m bs) (hm : m ∈ ds) (hal : ∀ d, d ∈ ds → ∀ d', d' ∈ ds → PySem.W.alike d d' = true) : ∃ x, RelV x u ∧ Rp K G x m := by
  obtain ⟨x, hx, rx⟩ := vals_back rv hi
  obtain ⟨d, hd, rp⟩ := ra.get hx
  obtain ⟨cs, r⟩ := reads_get rd hi hd
  have e := PySem.W.alike_unique d m u cs bs (hal _ (List.mem_of_getElem? hd) _ hm) (Reads.keeps kp r) rm
  subst e
  exact ⟨x, rx, rp⟩
theorem prim_mm (mx : Bool) (hc : X.calm = true) (hr : ∃ k, Room k X.A) {pins : List (Addr × Obj)} {s : Shared} {σ : L2.St} {H G : Hp} {a : Addr} {xs : List V} {ds : List D} {d : D} {Q : VK} (I : L2.Inv X pins σ H s) (vw : View G H) (hq : G a = some (.lst xs) ∨ SqT X.K G a xs) (ra : RpAll X.K G xs ds) (h : minmaxD mx ds = some d)
    (q : ∀ v G' H', Grow G H G' H' → Rp X.K G' v d → Q v H') : wpAny (model X.prog X.w) X.A (call (.builtin (if mx then "max" else "min")) [.ref a]) (EP X pins σ Q) X.xe s := by
  obtain ⟨kk, room⟩ := hr
  have hu : X.A.units + 65 < cLine := by have := room.un; omega
  unfold minmaxD at h
  split at h
  · cases h
  · rename_i x r
    split at h
    · rename_i hcc
      rw [Bool.and_eq_true, Bool.and_eq_true] at hcc
      obtain ⟨⟨h1, h2⟩, h3⟩ := hcc
      have dp := ra.dp vw.sub (shaped_lay h1)
      have hal := alkB_iff h2
      have AA : PySem.W.AlikeAll (x :: r) := ⟨fun d hd d' hd' => hal d hd d' hd', fun d hd e => by
        rw [List.all_eq_true] at h3
        have := h3 d hd
        rw [e] at this
        cases this⟩
      have hun : X.A.units + 1 + PyData.depthAll (x :: r) < cLine := by
        have := shaped_depth h1
        omega
      have fin : ∀ (its : List Value) (as : List Addr) (m : D) (i : Nat) (v : Value) (h' : Heap) (tk : Nat) (bs : List Addr), Vals xs its → ReadsAll s.heap its (x :: r) as → m = d → m ∈ x :: r → its.toArray[i]? = some v → Reads h' v m bs → (∀ b o, s.heap.get? b = some o → h'.get? b = some o) →
          EP X pins σ Q v { s with heap := h', toks := tk } := fun its as m i v h' tk bs rv rd em hm hi rm kp => by
        obtain ⟨y, ry, rp⟩ := pick_item ra rv rd kp (by simpa using hi) rm hm hal
        subst em
        exact ⟨y, H, I.kept kp, ry, fin0 vw q rp⟩
      have hh := I.ok.hd hc
      cases mx with
      | false =>
        have ed : PySem.W.minD x r = d := Option.some.inj h
        rcases hq with hq | hq
        · obtain ⟨its, rv, hl, hz⟩ := I.list (.inl (.inl (vw.sub _ _ hq)))
          obtain ⟨as, rd⟩ := Dp.readsAll I (x :: r) xs its dp rv
          exact PySem.W.min_list_data hh hl.isList rd AA hun fun i v h' tk bs hi rm kp => fin its as _ i v h' tk bs rv rd ed (minD_mem x r) hi rm kp
        · obtain ⟨its, rv, hl, hz⟩ := I.tuple (sqT_sub vw.sub hq)
          obtain ⟨as, rd⟩ := Dp.readsAll I (x :: r) xs its dp rv
          exact PySem.W.min_tuple_data hh hl rd AA hun fun i v h' tk bs hi rm kp => fin its as _ i v h' tk bs rv rd ed (minD_mem x r) hi rm kp
      | true =>
        have ed : PySem.W.maxD x r = d := Option.some.inj h
        rcases hq with hq | hq
        · obtain ⟨its, rv, hl, hz⟩ := I.list (.inl (.inl (vw.sub _ _ hq)))
          obtain ⟨as, rd⟩ := Dp.readsAll I (x :: r) xs its dp rv
          exact PySem.W.max_list_data hh hl.isList rd AA hun fun i v h' tk bs hi rm kp => fin its as _ i v h' tk bs rv rd ed (maxD_mem x r) hi rm kp
        · obtain ⟨its, rv, hl, hz⟩ := I.tuple (sqT_sub vw.sub hq)
          obtain ⟨as, rd⟩ := Dp.readsAll I (x :: r) xs its dp rv
          exact PySem.W.max_tuple_data hh hl rd AA hun fun i v h' tk bs hi rm kp => fin its as _ i v h' tk bs rv rd ed (maxD_mem x r) hi rm kp
    · cases h
theorem prim_max (hc : X.calm = true) (hr : ∃ k, Room k X.A) : CallR X (.builtin "max") (rN X.K maxmD) := by
  intro pins s σ H xs us Q I r h
  obtain ⟨G, as, d, vw, ra, hd, q⟩ := h
  unfold maxmD at hd
  split at hd
  · obtain ⟨v, rfl, rv⟩ := ra.one
    obtain ⟨a, vs, rfl, g, r1⟩ := rv.toLst
    rw [Vals.ref1 r]
    exact prim_mm true hc hr I vw (.inl g) r1 hd q
  · obtain ⟨v, rfl, rv⟩ := ra.one
    obtain ⟨a, vs, rfl, g, r1⟩ := rv.toTup
    rw [Vals.ref1 r]
    exact prim_mm true hc hr I vw (.inr g) r1 hd q
  · cases hd
    obtain ⟨v, u, rfl, r1, r2⟩ := ra.two
    rw [r1.toInt, r2.toInt] at r
    exact call_max2 hc pins s σ H _ us Q I r ⟨_, _, rfl, fin0 vw q (.int _)⟩
  · cases hd
    obtain ⟨v, u, rfl, r1, r2⟩ := ra.two
    rw [r1.toStr, r2.toStr] at r
    exact call_max2s hc pins s σ H _ us Q I r ⟨_, _, rfl, fin0 vw q (.str _)⟩
  · cases hd
theorem prim_min (hc : X.calm = true) (hr : ∃ k, Room k X.A) : CallR X (.builtin "min") (rN X.K minmD) := by
  intro pins s σ H xs us Q I r h
  obtain ⟨G, as, d, vw, ra, hd, q⟩ := h
  unfold minmD at hd
  split at hd
  · obtain ⟨v, rfl, rv⟩ := ra.one
    obtain ⟨a, vs, rfl, g, r1⟩ := rv.toLst
    rw [Vals.ref1 r]
    exact prim_mm false hc hr I vw (.inl g) r1 hd q
  · obtain ⟨v, rfl, rv⟩ := ra.one
    obtain ⟨a, vs, rfl, g, r1⟩ := rv.toTup
    rw [Vals.ref1 r]
    exact prim_mm false hc hr I vw (.inr g) r1 hd q
  · cases hd
    obtain ⟨v, u, rfl, r1, r2⟩ := ra.two
    rw [r1.toInt, r2.toInt] at r
    exact call_min2 hc pins s σ H _ us Q I r ⟨_, _, rfl, fin0 vw q (.int _)⟩
  · cases hd
    obtain ⟨v, u, rfl, r1, r2⟩ := ra.two
    rw [r1.toStr, r2.toStr] at r
    exact call_min2s hc pins s σ H _ us Q I r ⟨_, _, rfl, fin0 vw q (.str _)⟩
  · cases hd
end

/-! ### all of them, by name -/
def bfT : List (Str × (List D → Option D)) := [("len", lenD), ("all", allD), ("any", anyD), ("sorted", sortedD), ("max", maxmD), ("min", minmD), ("tuple", tupD), ("list", lstD), ("sum", sumD), ("int", intD)]
def bfD (f : Str) (ds : List D) : Option D := match bfT.lookup f with
  | some g => g ds
  | none => none
theorem lookup_mem {α : Type} : ∀ {l : List (Str × α)} {f : Str} {g : α}, l.lookup f = some g → (f, g) ∈ l
  | [], _, _, h => by cases h
  | (k, v) :: r, f, g, h => by
    rw [List.lookup_cons] at h
    split at h
    · rename_i e
      have e2 := beq_iff_eq.mp e
      cases h
      rw [e2]
      exact List.mem_cons_self
    · exact List.mem_cons_of_mem _ (lookup_mem h)
theorem bf_nil : ∀ p ∈ bfT, p.2 [] = none := by
  intro p hp
  simp only [bfT, List.mem_cons, List.not_mem_nil, or_false] at hp
  rcases hp with h | h | h | h | h | h | h | h | h | h <;> subst h <;> rfl
theorem prim_bf {X : Cx} {mg : Str → Option Value} (hmg : ∀ p ∈ bfT, mg p.1 = none) (hc : X.calm = true) (hr : ∃ k, Room k X.A) (f : Str) (ds : List D) (d : D) (h : bfD f ds = some d) : ds ≠ [] ∧ mg f = none ∧ f ≠ "__name__" ∧ (f == ("__debug__" : Str)) = false ∧
    ((∃ id, bootBuiltins f = some (.builtin id) ∧ CallR X (.builtin id) (rN X.K (bfD f))) ∨ (∃ T', bootBuiltins f = some (.type T') ∧ CallR X (.type T') (rN X.K (bfD f)))) := by
  unfold bfD at h
  cases q : bfT.lookup f with
  | none => rw [q] at h; cases h
  | some g =>
    rw [q] at h
    have hp := lookup_mem q
    have e : bfD f = g := by
      funext ds
      unfold bfD
      rw [q]
    rw [e]
    refine ⟨fun z => ?_, hmg _ hp, ?_⟩
    · have h' : g ds = some d := h
      have h2 : g [] = none := bf_nil _ hp
      rw [z, h2] at h'
      cases h'
    · simp only [bfT, List.mem_cons, List.not_mem_nil, or_false, Prod.mk.injEq] at hp
      rcases hp with ⟨rfl, rfl⟩ | ⟨rfl, rfl⟩ | ⟨rfl, rfl⟩ | ⟨rfl, rfl⟩ | ⟨rfl, rfl⟩ | ⟨rfl, rfl⟩ | ⟨rfl, rfl⟩ | ⟨rfl, rfl⟩ | ⟨rfl, rfl⟩ | ⟨rfl, rfl⟩
      · exact ⟨by decide, by decide, .inl ⟨"len", by decide +kernel, prim_len⟩⟩
      · exact ⟨by decide, by decide, .inl ⟨"all", by decide +kernel, prim_all hc⟩⟩
      · exact ⟨by decide, by decide, .inl ⟨"any", by decide +kernel, prim_any hc⟩⟩
      · exact ⟨by decide, by decide, .inl ⟨"sorted", by decide +kernel, prim_srt hr⟩⟩
      · exact ⟨by decide, by decide, .inl ⟨"max", by decide +kernel, prim_max hc hr⟩⟩
      · exact ⟨by decide, by decide, .inl ⟨"min", by decide +kernel, prim_min hc hr⟩⟩
      · exact ⟨by decide, by decide, .inr ⟨"tuple", by decide +kernel, prim_tuple⟩⟩
      · exact ⟨by decide, by decide, .inr ⟨"list", by decide +kernel, prim_list⟩⟩
      · exact ⟨by decide, by decide, .inl ⟨"sum", by decide +kernel, prim_sum hc⟩⟩
      · exact ⟨by decide, by decide, .inr ⟨"int", by decide +kernel, prim_int⟩⟩
end TD

set_option Elab.async false
set_option linter.all false
set_option maxRecDepth 100000
/-! TP4: methods, items, slices. -/
namespace TD
open PySem PySem.Spec PyProof.Rows L2

/-! ### l.count(x), l.index(x) -/
def cntD (ds : List D) (x : D) : Option D := if SeqAt.shaped (.list ds) && SeqAt.shaped x then some (.int (ds.countP fun z => PyData.eqv z x)) else none
def idxD (ds : List D) (x : D) : Option D := if SeqAt.shaped (.list ds) && SeqAt.shaped x then (ds.findIdx? fun z => PyData.eqv z x).map fun j => .int (j : Nat) else none
def cntM : D → List D → Option D
  | .list ds, [x] => cntD ds x
  | _, _ => none
def idxM : D → List D → Option D
  | .list ds, [x] => idxD ds x
  | _, _ => none
def mtT : List (Str × String × (D → List D → Option D)) := [("count", "list.count", cntM), ("index", "list.index", idxM)]
def mtD (m : Str) (a : D) (as : List D) : Option D := match mtT.lookup m with
  | some g => g.2 a as
  | none => none
section
variable {X : Cx}
theorem mt_countD (hu : X.A.units + 65 < cLine) : MtR X "list.count" (rM X.K cntM) := by
  intro pins s σ H x xs v us Q I rx rxs h
  obtain ⟨G, a, as, d, vw, ra, ras, hd, q⟩ := h
  unfold cntM at hd
  split at hd
  · rename_i ds e
    unfold cntD at hd
    split at hd
    · rename_i hs
      rw [Bool.and_eq_true] at hs
      obtain ⟨sl, sd⟩ := hs
      cases hd
      obtain ⟨y, rfl, ry⟩ := ras.one
      obtain ⟨p, vs, rfl, g, r1⟩ := ra.toLst
      cases rx
      obtain ⟨uy, rfl, ruy⟩ := rxs.one
      obtain ⟨bs, r2⟩ := Dp.reads I e y uy (ry.dp vw.sub (SeqAt.canLay_of_shaped sd)) ruy
      have hxs : PyData.canLayAll0 ds = true := shaped_lay sl
      have hroom : X.A.units + 1 + min (PyData.depthAll ds) e.depth < cLine := room_in_shaped sd hu
      obtain ⟨its, rv, ⟨⟨cls, dd, data, sls⟩, n, ho, hc, hdn, hdt⟩, hlen⟩ := I.list (.inl (.inl (vw.sub _ _ g)))
      simp only at hc hdt
      subst hc hdt
      obtain ⟨as, h4⟩ := Dp.readsAll I ds _ its (r1.dp vw.sub hxs) rv
      have hmap : its.map (SeqAt.readOf s.heap) = ds := SeqAt.readsAll_map ds its as hxs h4
      refine call_meets PySem.F.slot_list_count ⟨_, ho, rfl⟩ PySem.F.entry_list_count (PySem.F.args_list_count_2 _ _)
        (SeqAt.list_countAt p its.toArray n dd sls uy (fun u => PyData.eqv (SeqAt.readOf s.heap u) e)) ⟨ho, SeqAt.items_eqAt (vs := its.toArray) (show ReadsAll s.heap its.toArray.toList ds as from h4) r2 hxs (SeqAt.canLay_of_shaped sd) hroom, ?_⟩
      have ec : its.toArray.toList.countP (fun u => PyData.eqv (SeqAt.readOf s.heap u) e) = ds.countP fun z => PyData.eqv z e := by
        rw [← hmap, List.countP_map] <;> rfl
      refine ⟨.int (ds.countP fun z => PyData.eqv z e : Nat), H, I.tok _, ⟨s.toks, ?_⟩, fin0 vw q (.int _)⟩
      show Value.int ((its.toArray.toList.countP (fun u => PyData.eqv (SeqAt.readOf s.heap u) e) : Nat) : Int) s.toks = _
      rw [ec]
    · cases hd
  · cases hd
theorem mt_idxD (hu : X.A.units + 65 < cLine) : MtR X "list.index" (rM X.K idxM) := by
  intro pins s σ H x xs v us Q I rx rxs h
  obtain ⟨G, a, as, d, vw, ra, ras, hd, q⟩ := h
  unfold idxM at hd
  split at hd
  · rename_i ds e
    unfold idxD at hd
    split at hd
    · rename_i hs
      rw [Bool.and_eq_true] at hs
      obtain ⟨sl, sd⟩ := hs
      cases hj : ds.findIdx? fun z => PyData.eqv z e with
      | none => rw [hj] at hd; cases hd
      | some j =>
        rw [hj] at hd
        cases hd
        obtain ⟨y, rfl, ry⟩ := ras.one
        have dl := ra.dp vw.sub (SeqAt.canLay_of_shaped sl)
        obtain ⟨p, vs, rfl, g, r1⟩ := ra.toLst
        obtain ⟨hjl, hjt, hjn⟩ := List.findIdx?_eq_some_iff_getElem.mp hj
        refine mt_indexD hu pins s σ H _ _ v us Q I rx rxs ⟨p, y, e, ds, j, ds[j], rfl, rfl, dl, ry.dp vw.sub (SeqAt.canLay_of_shaped sd), sl, sd, List.getElem?_eq_getElem hjl, hjt, fun m z hm hz => ?_, fin0 vw q (.int _)⟩
        obtain ⟨hml, hme⟩ := List.getElem?_eq_some_iff.mp hz
        rw [← hme]
        exact Bool.eq_false_iff.mpr (hjn m hm)
    · cases hd
  · cases hd
theorem MtR.imp {id : String} {r r' : V → List V → Hp → VK → Prop} (h : MtR X id r) (f : ∀ x xs H Q, r' x xs H Q → r x xs H Q) : MtR X id r' :=
  fun pins s σ H x xs v us Q I rx rxs q => h pins s σ H x xs v us Q I rx rxs (f _ _ _ _ q)
theorem mt_ty {K : PySem.W.Frag} {f g : D → List D → Option D} {T : String} {x : V} {xs : List V} {H : Hp} {Q : VK} (e : g = f) (h : rM K (fun a' as' => if tyD a' = T then g a' as' else none) x xs H Q) : rM K f x xs H Q := by
  obtain ⟨G, a, as, d, vw, ra, ras, hd, q⟩ := h
  refine ⟨G, a, as, d, vw, ra, ras, ?_, q⟩
  dsimp only at hd
  split at hd
  · rw [← e]; exact hd
  · cases hd
theorem prim_mt (hr : ∃ k, Room k X.A) (m : Str) (a : D) (as : List D) (d : D) (h : mtD m a as = some d) : tyD a ≠ "" ∧ as ≠ [] ∧ as.length < 25 ∧ ∃ id, PlainAttrs (tyD a) ∧ Slot (tyD a) m id ∧ typeOf (.builtin id) = pure (.type "method_descriptor") ∧
    MtR X id (rM X.K fun a' as' => if tyD a' = tyD a then mtD m a' as' else none) := by
  obtain ⟨kk, room⟩ := hr
  have hu : X.A.units + 65 < cLine := by have := room.un; omega
  unfold mtD at h
  cases q : mtT.lookup m with
  | none => rw [q] at h; cases h
  | some g =>
    rw [q] at h
    have hp := lookup_mem q
    have e : mtD m = g.2 := by
      funext a as
      unfold mtD
      rw [q]
    have h' : g.2 a as = some d := h
    clear h q
    simp only [mtT, List.mem_cons, List.not_mem_nil, or_false, Prod.mk.injEq] at hp
    rcases hp with ⟨rfl, rfl⟩ | ⟨rfl, rfl⟩
    · have h2 : cntM a as = some d := h'
      unfold cntM at h2
      split at h2
      · exact ⟨by simp [tyD], by simp, by simp, "list.count", PySem.F.plainAttrs_list, PySem.F.slot_list_count, PySem.F.type_list_count, MtR.imp (mt_countD hu) fun x xs H Q z => mt_ty e z⟩
      · cases h2
    · have h2 : idxM a as = some d := h'
      unfold idxM at h2
      split at h2
      · exact ⟨by simp [tyD], by simp, by simp, "list.index", PySem.F.plainAttrs_list, PySem.F.slot_list_index, PySem.F.type_list_index, MtR.imp (mt_idxD hu) fun x xs H Q z => mt_ty e z⟩
      · cases h2
end

/-! ### x[i] -/
def keyIs (k : Str) : D × D → Bool
  | (.str x, _) => x == k
  | _ => false
def strOf : D × D → Option D
  | (_, .str y) => some (.str y)
  | _ => none
def ixD : D → D → Option D
  | .list ds, .int i => atI ds i
  | .tuple ds, .int i => atI ds i
  | .str z, .int i => if z.length ≤ lim then (atI z.cps.toList i).map fun c => .str ⟨#[c]⟩ else none
  | .dict kvs, .str k => (kvs.find? (keyIs k)).bind strOf
  | _, _ => none
theorem atI_rp {K : PySem.W.Frag} {G : Hp} {vs : List V} {ds : List D} {i : Int} {d : D} (r : RpAll K G vs ds) (h : atI ds i = some d) : ∃ v, atI vs i = some v ∧ Rp K G v d := by
  unfold atI at h ⊢
  rw [← r.length] at h
  cases e : ixN vs.length i with
  | none => rw [e] at h; cases h
  | some j =>
    rw [e] at h
    obtain ⟨v, h1, h2⟩ := r.getD (show ds[j]? = some d from h)
    exact ⟨v, h1, h2⟩
theorem IxR.imp {X : Cx} {r r' : R2} (h : IxR X r) (f : ∀ x y H Q, r' x y H Q → r x y H Q) : IxR X r' := fun value slice pins s σ H x y v u Q I rx ry q hs => h value slice pins s σ H x y v u Q I rx ry (f _ _ _ _ q) hs
theorem valV_find : ∀ {kvs : List (Str × Str)} {k y : Str}, ((kvs.map fun p => ((.str p.1, .str p.2) : D × D)).find? (keyIs k)) = some (.str k, .str y) →
    valV (kvs.map fun p => ((Sum.inr p.1 : Key), V.str p.2)) (Sum.inr k) = some (.str y)
  | [], _, _, h => by cases h
  | (a, b) :: r, k, y, h => by
    rw [List.map_cons, List.find?_cons] at h
    by_cases e : a = k
    · subst e
      simp only [keyIs, beq_self_eq_true, Option.some.injEq, Prod.mk.injEq, PyData.str.injEq, true_and] at h
      subst h
      unfold valV
      simp
    · have e1 : (a == k) = false := beq_eq_false_iff_ne.mpr e
      simp only [keyIs, e1] at h
      have ih := valV_find h
      unfold valV at ih ⊢
      rw [List.map_cons, List.find?_cons]
      have e2 : decide ((Sum.inr a : Key) = Sum.inr k) = false := decide_eq_false fun q => e (Sum.inr.inj q)
      simp only [e2]
      exact ih
theorem find_key : ∀ {kvs : List (Str × Str)} {k : Str} {p : D × D}, ((kvs.map fun p => ((.str p.1, .str p.2) : D × D)).find? (keyIs k)) = some p → ∃ y, p = (.str k, .str y)
  | [], _, _, h => by cases h
  | (a, b) :: r, k, p, h => by
    rw [List.map_cons, List.find?_cons] at h
    by_cases e : a = k
    · subst e
      simp only [keyIs, beq_self_eq_true, Option.some.injEq] at h
      exact ⟨b, h.symm⟩
    · have e1 : (a == k) = false := beq_eq_false_iff_ne.mpr e
      simp only [keyIs, e1] at h
      exact find_key h
theorem prim_ix {X : Cx} (hr : ∃ k, Room k X.A) : IxR X (r2 X.K ixD) := by
  intro value slice pins s σ H x y v u Q I rx ry h hs
  obtain ⟨G, a, b, d, vw, ra, rb, hd, q⟩ := h
  unfold ixD at hd
  split at hd
  · rw [rb.toInt] at ry
    obtain ⟨p, vs, rfl, g, r1⟩ := ra.toLst
    obtain ⟨z, hz, rz⟩ := atI_rp r1 hd
    exact ix_list value slice pins s σ H _ _ v u Q I rx ry ⟨p, vs, _, z, rfl, rfl, .inl (.inl (vw.sub _ _ g)), hz, fin0 vw q rz⟩ hs
  · rw [rb.toInt] at ry
    obtain ⟨p, vs, rfl, g, r1⟩ := ra.toTup
    obtain ⟨z, hz, rz⟩ := atI_rp r1 hd
    exact ix_tup value slice pins s σ H _ _ v u Q I rx ry ⟨p, vs, _, z, rfl, rfl, sqT_sub vw.sub g, hz, fin0 vw q rz⟩ hs
  · split at hd
    · rename_i z i hz
      rw [rb.toInt] at ry
      rw [ra.toStr] at rx
      cases hc : atI z.cps.toList i with
      | none => rw [hc] at hd; cases hd
      | some c =>
        rw [hc] at hd
        cases hd
        exact ix_str value slice pins s σ H _ _ v u Q I rx ry ⟨z, i, c, rfl, rfl, strlim hz, hc, fin0 vw q (.str _)⟩ hs
    · cases hd
  · rename_i kvs k
    rw [rb.toStr] at ry
    generalize hk : (PyData.dict kvs) = dd at ra
    cases ra with
    | dct g =>
      rename_i p kvs'
      unfold dictD at hk
      cases hk
      cases hf : (kvs'.map fun p => ((.str p.1, .str p.2) : D × D)).find? (keyIs k) with
      | none => rw [hf] at hd; cases hd
      | some pr =>
        obtain ⟨y', e⟩ := find_key hf
        subst e
        have hv := valV_find hf
        rw [hf] at hd
        cases hd
        cases rx
        obtain ⟨kk, room⟩ := hr
        have hu : X.A.units + 1 < cLine := by have := room.un; omega
        have gd : DGet H p (V.str k) (some (.str y')) := by
          have := DGet.k (k := Sum.inr k) (vw.sub _ _ g)
          rw [hv] at this
          exact this
        exact tail_any (dict_typeIs I gd) slot_dict_getitem.lookup (d_getItem hu I gd ry fun w' s' I' r' => ⟨_, H, I', r', fin0 vw q (.str _)⟩) hs
    | _ => cases hk
  · cases hd

/-! ### x[lo:hi] -/
def cutD (ds : List D) (lo hi : Option Int) : List D := (ds.drop (HT.sIx ds.length 0 lo)).take (HT.sIx ds.length ds.length hi - HT.sIx ds.length 0 lo)
def slD : D → Option Int → Option Int → Option D
  | .list ds, lo, hi => some (.list (cutD ds lo hi))
  | .tuple ds, lo, hi => some (.tuple (cutD ds lo hi))
  | .str z, lo, hi => if z.length ≤ lim then some (.str (cutS z lo hi)) else none
  | _, _, _ => none
theorem cut_rp {K : PySem.W.Frag} {G : Hp} {vs : List V} {ds : List D} {lo hi : Option Int} (r : RpAll K G vs ds) : RpAll K G (cutV vs lo hi) (cutD ds lo hi) := by
  unfold cutV cutD
  rw [r.length]
  exact (r.drop _).take _
theorem cut_whole {ds : List D} {lo hi : Option Int} (h : HT.sIx ds.length 0 lo = 0 ∧ HT.sIx ds.length ds.length hi = ds.length) : cutD ds lo hi = ds := by
  unfold cutD
  rw [h.1, h.2]
  simp
theorem prim_sl {X : Cx} : SlR X (fun v lo hi H Q => r1 X.K (fun a => slD a lo hi) v H Q) := by
  intro pins s σ H x v vl vu lo hi sl Q I rx hs pl pu h
  obtain ⟨G, a, d, vw, ra, hd, q⟩ := h
  dsimp only at hd
  unfold slD at hd
  split at hd
  · cases hd
    obtain ⟨p, vs, rfl, g, r1⟩ := ra.toLst
    exact sl_list pins s σ H _ v vl vu _ _ sl Q I rx hs pl pu ⟨p, vs, rfl, .inl (.inl (vw.sub _ _ g)), fun l hl => finL vw q (cut_rp r1) (Nat.le_trans (cutV_length _ _ _) (vw.vw _ _ g)) hl⟩
  · cases hd
    have hz := vw.tup ra
    obtain ⟨p, vs, rfl, g, r1⟩ := ra.toTup
    refine sl_tupA pins s σ H _ v vl vu _ _ sl Q I rx hs pl pu ⟨p, vs, rfl, sqT_sub vw.sub g, fun e => ?_, fun _ l hl => ?_⟩
    · rw [r1.length] at e
      rw [cut_whole e] at q
      exact fin0 vw q (.tup g r1)
    · refine finT vw q (cut_rp r1) (Nat.le_trans (cutV_length _ _ _) ?_) hl
      rw [r1.length]
      exact hz
  · split at hd
    · rename_i hz
      cases hd
      rw [ra.toStr] at rx
      exact sl_str pins s σ H _ v vl vu _ _ sl Q I rx hs pl pu ⟨_, rfl, strlim hz, fin0 vw q (.str _)⟩
    · cases hd
  · cases hd

/-! ### x[::-1] -/
def rvD : D → Option D
  | .list ds => some (.list ds.reverse)
  | .tuple ds => some (.tuple ds.reverse)
  | _ => none
section
variable {prog : Program} {w : World} {A : Around} {E : Value → Shared → Prop} {s : Shared}
theorem adjust_rev (n : Nat) : Builtin.Slice.sliceAdjust none none (-1) (n : Int) = ((n : Int) - 1, -1) := rfl
theorem places_rev (n : Nat) : Builtin.Slice.slicePlaces ((n : Int) - 1) (-1) (-1) = n := by
  unfold Builtin.Slice.slicePlaces
  have h1 : ¬ ((-1 : Int) > 0) := by omega
  simp only [h1, if_false]
  have e : (- (-1 : Int)) = 1 := rfl
  rw [e, Int.ediv_one]
  split <;> omega
theorem sliceApplied_rev {sl : Addr} {vs : Value} {n : Nat} {Q : Int × Int × Nat → Shared → Prop} (hs : s.heap.IsSliceOf sl .none .none vs) (ps : IsPart vs (some (-1)))
    (h : Q ((n : Int) - 1, -1, n) s) : wpAny (model prog w) A (Builtin.Slice.sliceApplied (.ref sl) (pure (n : Int))) Q E s := by
  obtain ⟨os, hos, hcs, hds⟩ := id hs
  unfold Builtin.Slice.sliceApplied Builtin.Slice.sliceFields
  refine wpAny_bind (wpAny_bind (wpAny_field hos hds (x := .none) rfl (wpAny_bind (wpAny_field hos hds (x := .none) rfl (wpAny_bind (wpAny_field hos hds (x := vs) rfl (wpAny_pure ?_)))))))
  refine wpAny_bind (HT.slicePart_ ps ?_)
  show wpAny _ _ (if ((-1 : Int) == 0) = true then _ else _) _ _ s
  rw [if_neg (by decide)]
  refine wpAny_bind (slicePart_none (wpAny_bind (slicePart_none (wpAny_bind (wpAny_pure ?_)))))
  show wpAny _ _ (match Builtin.Slice.sliceAdjust none none (-1) (n : Int) with | (lo, hi) => pure (lo, (-1 : Int), Builtin.Slice.slicePlaces lo hi (-1))) _ _ s
  rw [adjust_rev n]
  show wpAny _ _ (pure ((n : Int) - 1, (-1 : Int), Builtin.Slice.slicePlaces ((n : Int) - 1) (-1) (-1))) _ _ s
  rw [places_rev]
  exact wpAny_pure h
theorem pick_rev (xs : Array Value) : ((List.range xs.size).filterMap fun (m : Nat) => xs[(((xs.size : Int) - 1) + (m : Int) * (-1)).toNat]?).toArray = xs.toList.reverse.toArray := by
  congr 1
  have key : ∀ k, k ≤ xs.size → ((List.range k).filterMap fun (m : Nat) => xs[(((xs.size : Int) - 1) + (m : Int) * (-1)).toNat]?) = xs.toList.reverse.take k := by
    intro k
    induction k with
    | zero => intro _; simp
    | succ k ih =>
      intro hk
      rw [List.range_succ, List.filterMap_append, ih (by omega), List.take_add_one]
      congr 1
      have e1 : (((xs.size : Int) - 1) + (k : Int) * (-1)).toNat = xs.size - 1 - k := by omega
      simp only [List.filterMap_cons, List.filterMap_nil, e1]
      have hlt : xs.size - 1 - k < xs.size := by omega
      rw [List.getElem?_reverse (by rw [Array.length_toList]; omega), Array.length_toList, Array.getElem?_toList, Array.getElem?_eq_getElem hlt]
      rfl
  rw [key xs.size (Nat.le_refl _), List.take_of_length_le (by simp)]
theorem getItem_tuple_rev {t sl : Addr} {items : Array Value} {vs : Value} {Q : Value → Shared → Prop} (ht : IsTup s.heap t items) (hs : s.heap.IsSliceOf sl .none .none vs) (ps : IsPart vs (some (-1)))
    (h : Q (.ref s.heap.objs.size) { s with heap := s.heap.push { cls := .type "tuple", data := .seq items.toList.reverse.toArray } })
    (hsz : items.size ≤ sizeLine) : wpAny (model prog w) A (getItem (.ref t) (.ref sl)) Q E s := by
  have htake : sizeOk (.seq items.toList.reverse.toArray) := by
    show items.toList.reverse.toArray.size ≤ sizeLine
    rw [List.size_toArray, List.length_reverse, Array.length_toList]
    omega
  obtain ⟨os, hos, hcs, hds⟩ := id hs
  have hTs : s.TypeIs (.ref sl) "slice" := ⟨os, hos, hcs⟩
  unfold getItem
  try with_reducible refine wpAny_holding ?_
  first | refine wpAny_bind (wpAny_pure ?_) | skip
  refine wpAny_bind (wpAny_sequenceKey ht.typeIs (by decide) ?_)
  refine wpAny_bind (wpAny_callSpecial?_slot (name := Str.ofString "__getitem__") ht.typeIs PyProof.Rows.slot_tuple_getitem
    (wpAny_call_entry PyProof.Rows.slot_tuple_getitem ht.typeIs entry_tuple_getitem ?_ (args_tuple_getitem _ _)))
  show wpAny _ _ (Builtin.Tuple.tupleItemsOf (.ref t) >>= _) _ _ s
  refine wpAny_bind (tupleItemsOf_ ht ?_)
  refine wpAny_bind (wpAny_typeOf hTs ?_)
  rw [if_pos (by decide)]
  refine wpAny_bind (sliceApplied_rev hs ps ?_)
  have hno : ¬ ((((items.size : Int) - 1) == 0 && (-1 : Int) == 1 && items.size == items.size) = true) := by
    have : ((-1 : Int) == 1) = false := by decide
    rw [this]
    simp
  show wpAny _ _ (if (((items.size : Int) - 1) == 0 && (-1 : Int) == 1 && items.size == items.size) = true then _ else _) _ _ s
  rw [if_neg hno, pick_rev]
  first
    | exact wpAny_bind (m := Builtin.Tuple.tupleExact _) (wpAny_newObj_type (wpAny_pure ⟨_, rfl, wpAny_pure h⟩) htake)
    | exact wpAny_bind (m := Builtin.Tuple.tupleExact _) (wpAny_newObj_type (wpAny_bind (wpAny_pure (wpAny_pure ⟨_, rfl, wpAny_pure h⟩))) htake)
    | exact wpAny_bind (wpAny_bind (m := Builtin.Tuple.tupleExact _) (wpAny_newObj_type (wpAny_pure (wpAny_pure ⟨_, rfl, wpAny_pure h⟩)) htake))
    | exact wpAny_bind (wpAny_bind (m := Builtin.Tuple.tupleExact _) (wpAny_newObj_type (wpAny_pure ⟨_, rfl, wpAny_pure h⟩) htake))
end
section
variable {X : Cx}
theorem vals_rev : ∀ {xs : List V} {us : List Value}, Vals xs us → Vals xs.reverse us.reverse := fun r => r.reverse
theorem prim_rv {e : Expr} {te : TE} {k : Nat} {p1 p2 p3 pos : Pos} (he : PE X e te) : PE X (.Subscript e (.Slice none none (some (.UnaryOp .USub (.Constant (.int 1) k p1) p2)) p3) pos) (fun σ H Q => te σ H fun v H1 => r1 X.K rvD v H1 Q) := by
  refine ⟨fun pins s σ H Q I h => ?_⟩
  refine Subscript_ (thn (he.run pins s σ H _ I h) fun v s1 ⟨x, H1, I1, rx, q1⟩ => ?_)
  obtain ⟨G, a, d, vw, ra, hd, q⟩ := q1
  have hst : PO X (some (.UnaryOp .USub (.Constant (.int 1) k p1) p2)) (tPart (tUn (rU fun i => .int (-i)) (tC (.int 1)))) := po_some (pe_un un_neg pe_int)
  refine wpAny_Slice (thn (po_none.run pins s1 σ H1 (fun o H2 => o = none ∧ H2 = H1) I1 ⟨rfl, rfl⟩) fun vl s2 ⟨l, H2, I2, pl, el, e2⟩ => ?_)
  subst el e2
  refine thn (po_none.run pins s2 σ H2 (fun o H3 => o = none ∧ H3 = H2) I2 ⟨rfl, rfl⟩) fun vu s3 ⟨u, H3, I3, pu, eu, e3⟩ => ?_
  subst eu e3
  refine thn (hst.run pins s3 σ H3 (fun o H4 => o = some (-1) ∧ H4 = H3) I3 ⟨1, rfl, -1, rfl, rfl, rfl⟩) fun vs s4 ⟨o, H4, I4, ps, eo, e4⟩ => ?_
  subst eo e4
  have I5 : L2.Inv X pins σ H4 { s4 with heap := s4.heap.push { cls := .type "slice", data := .fields #[vl, vu, vs] } } := I4.kept (t' := s4.toks) fun b ob q => Heap.get?_push_of_some _ q
  have eb1 : vl = Value.none := by cases pl; rfl
  have eb2 : vu = Value.none := by cases pu; rfl
  subst eb1 eb2
  unfold rvD at hd
  split at hd
  · cases hd
    obtain ⟨p, xs, rfl, g, r1⟩ := ra.toLst
    cases rx
    obtain ⟨its, r, ht, hz⟩ := I5.list (.inl (.inl (vw.sub _ _ g)))
    have hlen := r.length
    show wpAny (model X.prog X.w) X.A (subscriptTail e (.Slice none none (some (.UnaryOp .USub (.Constant (.int 1) k p1) p2)) p3) (.ref p) (.ref s4.heap.objs.size)) (EP X pins σ Q) X.xe { s4 with heap := s4.heap.push { cls := .type "slice", data := .fields #[.none, .none, vs] } }
    refine tail_any (ops := [.ref p, .ref s4.heap.objs.size]) ht.isList.typeIs (PySem.slot_list_getitem.lookup) ?_ (by with_unfolding_all rfl)
    refine wpAny_getItem_list_slice ht.isList (Heap.IsSliceOf.new _ .none .none vs) .none .none ps (by decide) ?_ (by rw [List.size_toArray]; omega)
    rw [PySem.W.krv_pick]
    refine ⟨.ref _, _, I5.laid (t' := s4.toks) (o := .lst xs.reverse) (fun b ob q => Heap.get?_push_of_some _ q) (Nat.le_refl _) ?_, rfl, finL vw q r1.reverse (by rw [List.length_reverse]; exact hz) (I5.hok.fresh (Nat.le_refl _))⟩
    exact ⟨by rw [List.length_reverse]; exact hz, _, 0, r.reverse, Heap.get?_push_size _ rfl⟩
  · cases hd
    obtain ⟨p, xs, rfl, g, r1⟩ := ra.toTup
    cases rx
    obtain ⟨its, r, ht, hz⟩ := I5.tuple (sqT_sub vw.sub g)
    have hlen := r.length
    show wpAny (model X.prog X.w) X.A (subscriptTail e (.Slice none none (some (.UnaryOp .USub (.Constant (.int 1) k p1) p2)) p3) (.ref p) (.ref s4.heap.objs.size)) (EP X pins σ Q) X.xe { s4 with heap := s4.heap.push { cls := .type "slice", data := .fields #[.none, .none, vs] } }
    refine tail_any (ops := [.ref p, .ref s4.heap.objs.size]) ht.typeIs (PyProof.Rows.slot_tuple_getitem.lookup) ?_ (by with_unfolding_all rfl)
    refine getItem_tuple_rev ht (Heap.IsSliceOf.new _ .none .none vs) ps ?_ (by rw [List.size_toArray]; omega)
    refine ⟨.ref _, _, I5.laid (t' := s4.toks) (o := .tup xs.reverse) (fun b ob q => Heap.get?_push_of_some _ q) (Nat.le_refl _) ?_, rfl, finT vw q r1.reverse (by rw [List.length_reverse]; exact hz) (I5.hok.fresh (Nat.le_refl _))⟩
    exact ⟨by rw [List.length_reverse]; exact hz, its.reverse, r.reverse, ⟨_, Heap.get?_push_size _ rfl, rfl, _, rfl⟩⟩
  · cases hd
end

/-! ### l.remove(text) -/
def eqs (z : Str) : Value → Bool
  | .str y _ => y.cps.toList == z.cps.toList
  | _ => false
theorem eqs_gives {z : Str} {t : Tok} : ∀ {us : List Value} {zs : List Str}, StrsAre us zs → ∀ y ∈ us, MeetsSeq.EqGives y (.str z t) (eqs z y)
  | _, _, .nil => fun y hy => by cases hy
  | _, _, .cons x t' h => fun y hy => by
    rcases List.mem_cons.mp hy with e | e
    · rw [e]
      exact SeqRoads2.EqGives.str x z t' t
    · exact eqs_gives h y e
theorem strs_get : ∀ {us : List Value} {zs : List Str}, StrsAre us zs → ∀ (i : Nat) (z : Str), zs[i]? = some z → ∃ t, us[i]? = some (.str z t)
  | _, _, .nil, i, z, e => by simp at e
  | _, _, .cons x t h, 0, z, e => by simp at e; subst e; exact ⟨t, rfl⟩
  | _, _, .cons x t h, i + 1, z, e => by
    obtain ⟨t', h'⟩ := strs_get h i z (by simpa using e)
    exact ⟨t', by simpa using h'⟩
theorem erase_mapS : ∀ (l : List Str) (j : Nat), (l.map V.str).eraseIdx j = (l.eraseIdx j).map V.str
  | [], j => by simp
  | a :: r, 0 => by simp
  | a :: r, j + 1 => by
    have ih := erase_mapS r j
    simp [ih]
theorem prim_rem {X : Cx} : MtR X "list.remove" rRemS := by
  intro pins s σ H x xs v us Q I rx rxs h
  obtain ⟨l, zs, k, j, rfl, rfl, hH, hj, hno, q⟩ := h
  cases rx
  obtain ⟨u, rfl, ru⟩ := rxs.one
  obtain ⟨t, rfl⟩ := ru
  obtain ⟨z, its, n, r, hl, e⟩ := I.lstM hH
  have hi := r.strs
  rw [List.length_map] at hl z
  have hjn : j < zs.length := (List.getElem?_eq_some_iff.mp hj).1
  have hjl : j < its.toArray.size := by rw [List.size_toArray]; omega
  refine call_meets PySem.F.slot_list_remove ⟨_, e, rfl⟩ PySem.F.entry_list_remove (PySem.F.args_list_remove_2 _ _)
    (MeetsSeq.list_remove l its.toArray n (.str k t) (eqs k) (fun y hy => eqs_gives hi y (by simpa using hy)) j hjl ?_ ?_ (by rw [List.size_toArray]; omega)) ⟨e, ?_⟩
  · obtain ⟨tj, hjt⟩ := strs_get hi j k hj
    obtain ⟨h1, h2⟩ := List.getElem?_eq_some_iff.mp hjt
    have e1 : its.toArray[j] = .str k tj := by simpa using h2
    rw [e1]
    exact beq_self_eq_true k.cps.toList
  · intro m hm hmj
    have hmn : m < zs.length := by omega
    obtain ⟨tm, hmt⟩ := strs_get hi m _ (List.getElem?_eq_getElem hmn)
    obtain ⟨h1, h2⟩ := List.getElem?_eq_some_iff.mp hmt
    have e1 : its.toArray[m] = .str zs[m] tm := by simpa using h2
    rw [e1]
    refine beq_eq_false_iff_ne.mpr fun e2 => hno m hmj ?_
    rw [List.getElem?_eq_getElem hmn, PySem.W.str_of_cps e2]
  · have rr := r.eraseIdx j
    rw [erase_mapS] at rr
    refine ⟨.non, _, I.lset (its' := its.eraseIdx j) (t' := s.toks) hH e ?_ rr ?_, rfl, q⟩
    · show its.toArray.eraseIdxIfInBounds j = (its.eraseIdx j).toArray
      rw [List.eraseIdxIfInBounds_toArray]
    · have z2 : (zs.eraseIdx j).length ≤ zs.length := by rw [List.length_eraseIdx]; split <;> omega
      rw [List.length_map]
      omega
end TD

set_option Elab.async false
set_option linter.all false
set_option maxRecDepth 100000
/-! TP5: enumerate of a tuple. -/
namespace TD
open PySem PySem.Spec PyProof.Rows L2
open AutoSeq1 (wpAny_loadPart')
theorem meets_enumerate_newT (l : Addr) (items : Array Value) (n : Nat) (dct : Option Addr) (sl : Array (Option Value)) :
    Meets (Builtin.«enumerate.__new__» ⟨[.type "enumerate", .ref l], []⟩) (fun _ R s => s.heap.get? l = some { cls := .type "tuple", dict := dct, data := .seq items n, slots := sl } ∧
      R (.ok (.ret (.ref (s.heap.push { cls := .type "tuple_iterator", data := .fields #[.ref l, .int 0 0] }).objs.size)))
        { s with heap := (s.heap.push { cls := .type "tuple_iterator", data := .fields #[.ref l, .int 0 0] }).push { cls := .type "enumerate", data := .fields #[.none, .bool false, .ref s.heap.objs.size, rawInt 0, .none, .none] } }) :=
  .of_wp fun prog w A R s h => by
    obtain ⟨hp, g, d, tk, os⟩ := s; obtain ⟨hl, h⟩ := h
    have hsub := sub_enumerate
    have hL : Heap.IsTuple (Shared.heap ⟨hp, g, d, tk, os⟩) l items := ⟨_, hl, rfl, n, rfl⟩
    wp_walk using wpAny_loadPart' hl
    refine wpAny_stack_any fun st => wpAny_pure ?_
    split
    · rename_i c _ _ _ _ _
      cases (c == Value.type "enumerate")
      · wp_walk using wpAny_loadPart' hl, wpAny_pyIter_tuple hL
        exact ⟨_, rfl, h⟩
      · wp_walk using wpAny_loadPart' hl, wpAny_pyIter_tuple hL
        exact ⟨_, rfl, h⟩
    · wp_walk using wpAny_loadPart' hl, wpAny_pyIter_tuple hL
      exact ⟨_, rfl, h⟩
section
variable {prog : Program} {w : World} {A : Around} {E : Value → Shared → Prop} {s : Shared}
theorem call_enumerate_tuple {l : Addr} {items : Array Value} {Q : Value → Shared → Prop} (hL : IsTup s.heap l items)
    (h : ∀ h', IsEnum h' (s.heap.objs.size + 1) s.heap.objs.size 0 .none → h'.IsTupleIter s.heap.objs.size l 0 → h'.objs.size = s.heap.objs.size + 2 →
      (∀ b o, s.heap.get? b = some o → h'.get? b = some o) → Q (.ref (s.heap.objs.size + 1)) { s with heap := h' }) :
    wpAny (model prog w) A (call (.type "enumerate") [.ref l]) Q E s := by
  obtain ⟨⟨c, dct, dt, sl⟩, hl, hc, n, hd⟩ := hL
  replace hc : c = .type "tuple" := hc
  replace hd : dt = .seq items n := hd
  subst hc hd
  refine callType_new F.called_enumerate (by decide) (F.typeCall_enumerate_1 _) (F.newCall_enumerate_1 _) (fun obj => F.args_object_init_2 obj _) F.entry_enumerate_new
    (meets_enumerate_newT l items n dct sl) ⟨hl, ?_⟩
  have hz : (s.heap.push { cls := .type "tuple_iterator", data := .fields #[.ref l, .int 0 0] }).objs.size = s.heap.objs.size + 1 := Heap.size_push ..
  show _ ∧ _
  rw [hz]
  have he : IsEnum ((s.heap.push { cls := .type "tuple_iterator", data := .fields #[.ref l, .int 0 0] }).push
      { cls := .type "enumerate", data := .fields #[.none, .bool false, .ref s.heap.objs.size, rawInt 0, .none, .none] }) (s.heap.objs.size + 1) s.heap.objs.size 0 .none := by
    have := Heap.get?_push_size (s.heap.push { cls := .type "tuple_iterator", data := .fields #[.ref l, .int 0 0] })
      (o := { cls := .type "enumerate", data := .fields #[.none, .bool false, .ref s.heap.objs.size, rawInt 0, .none, .none] }) rfl
    rw [hz] at this; exact this
  refine ⟨⟨_, he, rfl⟩, h _ he ⟨_, Heap.get?_push_of_some _ (Heap.get?_push_size _ rfl), rfl, rfl⟩ (by rw [Heap.size_push, hz]) fun b o x => Heap.get?_push_of_some _ (Heap.get?_push_of_some _ x)⟩
end
theorem turn_enumT {P : Program} {w : World} {K : PySem.W.Frag} {elts : List Expr} {kk : Nat} {tpos : Pos} (a e it : Addr) (hae : a ≠ e) (hai : a ≠ it) :
    Turn P w K (.Tuple elts kk tpos) (ItTe K a) [e, it] e (fun i h => (∃ old, IsEnum h e it ((i : Nat) : Int) old) ∧ h.IsTupleIter it a i ∧ e ≠ it) where
  mem := by simp
  obj := fun i h st b hb => by
    obtain ⟨⟨old, he⟩, ⟨o, ho, hc, hd⟩, _⟩ := st
    have e' : b = e ∨ b = it := by simpa using hb
    rcases e' with z | z
    · rw [z]; exact ⟨_, he, fun v q => nomatch q⟩
    · rw [z]; exact ⟨o, ho, fun v q => by rw [hd] at q; cases q⟩
  keep := fun i h h' st k => let ⟨⟨old, he⟩, hi, hne⟩ := st; ⟨⟨old, k e (by simp) _ he⟩, hi.at fun o q => k it (by simp) o q, hne⟩
  item := by
    intro X hP hw hK hc i pins s σ H E I hf st hg
    subst hP hw hK
    obtain ⟨⟨old, he⟩, hit, hne⟩ := st
    obtain ⟨xs, x, hq, hx⟩ := hg
    obtain ⟨its, rv, p, hz⟩ := I.tuple hq
    obtain ⟨u, hu, ru⟩ := rv.get hx
    have hel : e < s.heap.objs.size := Heap.lt_size he
    have hil : it < s.heap.objs.size := by obtain ⟨_, q, _⟩ := hit; exact Heap.lt_size q
    have hlt : i < its.toArray.size := by
      obtain ⟨h1, _⟩ := List.getElem?_eq_some_iff.mp hu
      rw [List.size_toArray]
      exact h1
    refine wpAny_pyNext_enum_itemD (Draws.tuple (A := X.A.in1) (I.ok.hd hc) it a hai its.toArray) he ⟨hit, p⟩ hlt hne (by simp [hne, Ne.symm hae]) fun u' h' tk hu' ho st' hT hsz hk => ?_
    have eu : u' = u := by
      have : its[i]? = some u' := by simpa using hu'
      rw [hu] at this
      exact (Option.some.inj this).symm
    subst eu
    refine ⟨_, rfl, wpAny_letOwnedTupleGo_enum (s := { s with heap := h', toks := tk + 1 }) ho fun h'' he' sb => ?_⟩
    have hT2 : h''.get? s.heap.objs.size = some { cls := .type "tuple", data := .seq #[.int i tk, u'] } := (sb.2 _ (Nat.ne_of_gt hel)).trans hT
    have new : ObjOk X.prog X.w (upd H s.heap.objs.size (.tup [.int (i : Nat), x])) h'' s.heap.objs.size (.tup [.int (i : Nat), x]) :=
      ⟨by show 2 ≤ sizeLine; decide, [.int i tk, u'], .cons ⟨_, rfl⟩ (.cons ru .nil), ⟨_, hT2, rfl, _, rfl⟩⟩
    have I1 : L2.Inv X pins σ (upd H s.heap.objs.size (.tup [.int (i : Nat), x])) { s with heap := h'', toks := tk + 1 } :=
      I.turnedNew (ch := [e, it]) (fun b ob hb q => (sb.2 b (fun z => hb (by simp [z]))).trans (hk b ob (fun z => hb (by simp [z])) (fun z => hb (by simp [z])) q)) hf (Nat.le_refl _) new
    refine ⟨.ref s.heap.objs.size, _, I1, rfl, ⟨_, x, rfl, I.hok.fresh (Nat.le_refl _), rfl, fun ys hy => by rw [I.tuple_inj hy hq]; exact hx⟩, ⟨⟨u', ?_⟩, st'.1.at fun o q => (sb.2 it (Ne.symm hne)).trans q, hne⟩, fun b hb => ?_⟩
    · have e1 : ((i + 1 : Nat) : Int) = (i : Int) + 1 := by omega
      rw [e1]; exact he'
    · have hb' : b < s.heap.objs.size := by
        have e' : b = e ∨ b = it := by simpa using hb
        rcases e' with z | z
        · rw [z]; exact hel
        · rw [z]; exact hil
      rw [upd_ne (Nat.ne_of_lt hb')]
      exact (hf b hb).1
  done := by
    intro X hP hw hK hc i pins s σ H E I hf st hg
    subst hP hw hK
    obtain ⟨⟨old, he⟩, hit, hne⟩ := st
    obtain ⟨xs, hq, hx⟩ := hg
    obtain ⟨its, rv, p, hz⟩ := I.tuple hq
    obtain ⟨f0, f1, f2, f3, f4, f5⟩ := hf it (by simp)
    have hl := rv.length
    have hT : s.TypeIs (.ref e) "enumerate" := ⟨_, he, rfl⟩
    unfold pyNext
    refine wpAny_bind (wpAny_attempt (wpAny_callSpecial?_slot (name := Str.ofString "__next__") hT F.slot_enumerate_next
      (wpAny_call_entry F.slot_enumerate_next hT F.entry_enumerate_next ?_ (F.args_enumerate_next_1 _))))
    show wpAny _ _ (field (.ref e) 2 >>= _) _ _ _
    refine wpAny_bind (wpAny_field he rfl (x := .ref it) rfl ?_)
    refine wpAny_bind (wpAny_nextOf_tuple_end (A := X.A.in1) (I.ok.hd hc) hit p (by simp; omega) fun h' x he' hx' => ?_)
    obtain ⟨o, ho, hc'⟩ := hx'
    refine wpAny_bind (wpAny_isInstance (T := "StopIteration") (b := true) ⟨o, ho, hc'⟩ isSubtype_stop ?_)
    exact wpAny_pure ⟨rfl, I.turned (t' := s.toks) (fun b o hb q => he' b o hb q) f0 f1 f3 f4 f5⟩
  self := fun A i s Q E st h => let ⟨⟨_, he⟩, _⟩ := st; wpAny_pyIter_enum he h
theorem prim_enumT {X : Cx} (hm : X.mg "enumerate" = none) {e : Expr} {ta : TA} {p pos tpos : Pos} {elts : List Expr} {kk : Nat} (hg : Gl X "enumerate") (ha : PA X [e] ta) (hs : starEach [e] X.env = [(false, eval e X.env)]) :
    PI X (.Tuple elts kk tpos) (.Call (.Name "enumerate" p) [e] [] pos) (iEnumT X.K ta) := by
  refine ⟨fun pins s σ H R I h => ?_⟩
  refine Call_ (ld_blt I hg hm boot_enumerate (PyProof.Rows.callWith_type1 (thn (ha.run pos pins s σ H _ I h) fun us s1 ⟨vs, H1, I1, r1, q1⟩ => ?_) hs rfl))
  obtain ⟨a, xs, ex, hq, q⟩ := q1
  subst ex
  cases r1 with
  | cons r rr =>
    cases rr
    cases r
    obtain ⟨its, rv, p', hz⟩ := I1.tuple hq
    have hal : a < s1.heap.objs.size := by obtain ⟨_, q, _⟩ := p'; exact Heap.lt_size q
    refine call_enumerate_tuple p' fun h' he hit hsz hk => wpAny_pyIter_enum he ?_
    have I2 : L2.Inv X pins σ H1 { s1 with heap := h' } := I1.kept (t' := s1.toks) hk
    refine ⟨s1.heap.objs.size + 1, [s1.heap.objs.size + 1, s1.heap.objs.size], _, _, H1, rfl, I2, turn_enumT a (s1.heap.objs.size + 1) s1.heap.objs.size (Nat.ne_of_lt (Nat.lt_succ_of_lt hal)) (Nat.ne_of_lt hal), ⟨⟨.none, he⟩, hit, Nat.succ_ne_self _⟩, fun b hb => ?_, q⟩
    have e' : b = s1.heap.objs.size + 1 ∨ b = s1.heap.objs.size := by simpa using hb
    have hle : s1.heap.objs.size ≤ b := by
      rcases e' with z | z
      · rw [z]; exact Nat.le_add_right _ _
      · rw [z]; exact Nat.le_refl _
    exact I1.fpOk hle (I1.hok.fresh hle)
end TD

set_option Elab.async false
set_option linter.all false
set_option maxRecDepth 100000
/-! TT1: all defs of a table keep their promises. -/
namespace TD
open PySem PySem.Spec PyProof.Rows L2

theorem zip_lookup : ∀ {ps : List Str} {us : List Value}, us.length = ps.length → ∀ x ∈ ps, ((ps.zip us).lookup x).isSome = true
  | [], _, _, x, h => by cases h
  | p :: ps, [], hl, _, _ => by simp at hl
  | p :: ps, u :: us, hl, x, h => by
    rw [List.zip_cons_cons, List.lookup_cons]
    by_cases e : x = p
    · subst e; simp
    · have e1 : (x == p) = false := beq_eq_false_iff_ne.mpr e
      rw [e1]
      rcases List.mem_cons.mp h with h | h
      · exact absurd h e
      · exact zip_lookup (by simpa using hl) x h
theorem filterMap_same {α β : Type} {f g : α → Option β} : ∀ {l : List α}, (∀ x ∈ l, f x = g x) → l.filterMap f = l.filterMap g
  | [], _ => rfl
  | a :: r, h => by
    rw [List.filterMap_cons, List.filterMap_cons, h a (by simp), filterMap_same fun x hx => h x (by simp [hx])]
theorem zip_filterMap : ∀ {ps : List Str} {us : List Value}, ps.Nodup → us.length = ps.length → (ps.filterMap fun n => ((ps.zip us).lookup n).map fun v => (n, v)) = ps.zip us
  | [], _, _, _ => by simp
  | p :: ps, [], _, hl => by simp at hl
  | p :: ps, u :: us, hn, hl => by
    rw [List.nodup_cons] at hn
    rw [List.zip_cons_cons, List.filterMap_cons, List.lookup_cons]
    simp only [beq_self_eq_true, Option.map_some]
    congr 1
    refine (filterMap_same fun x hx => ?_).trans (zip_filterMap (ps := ps) (us := us) hn.2 (by simpa using hl))
    have e : (x == p) = false := beq_eq_false_iff_ne.mpr fun e => hn.1 (e ▸ hx)
    rw [List.lookup_cons, e]
theorem bind_plain {fd : FuncData} {us : List Value} (h1 : fd.params.posonlyargs = []) (h2 : fd.params.kwonlyargs = []) (h3 : fd.params.vararg = none) (h4 : fd.params.kwarg = none) (h5 : fd.defaults = .none)
    (hn : (fd.params.args.map (·.arg)).Nodup) (hl : us.length = (fd.params.args.map (·.arg)).length) : bindArgs fd ⟨us, []⟩ = pure ((fd.params.args.map (·.arg)).zip us) := by
  have e1 : ((fd.params.args.map (·.arg)).filter fun n => (((fd.params.args.map (·.arg)).zip us).lookup n).isNone) = [] := by
    rw [List.filter_eq_nil_iff]
    intro x hx
    have := zip_lookup hl x hx
    rw [Option.isSome_iff_exists] at this
    obtain ⟨v, e⟩ := this
    simp [e]
  have hs : seqItems? (.none : Value) = pure none := rfl
  have hz := zip_filterMap hn hl
  unfold bindArgs
  simp only [h1, h2, h3, h4, h5, hs, List.map_nil, List.nil_append, List.append_nil, pure_bind, Option.getD_none, List.forIn_nil, List.length_nil]
  generalize fd.params.args.map (·.arg) = ps at hn hl e1 hz ⊢
  simp [hl, e1, hz]

/-! ### the table -/
def plainA (a : Arguments) : Bool := a.posonlyargs.isEmpty && a.kwonlyargs.isEmpty && a.vararg.isNone && a.kwarg.isNone
def fnScopeB (N ps : List Str) (sc : Scope) : Bool := (match sc.kind with | .function => true | _ => false) && !sc.isCoroutine && !sc.isGenerator && decide N.Nodup && decide (N.take ps.length = ps) && ps.all (fun x => locB sc x) && sc.names.all fun y => match y.2 with | .free => false | _ => true
def DI.okB (d : DI) : Bool := plainA d.params && fnScopeB d.N d.ps d.scope && decide d.ps.Nodup && !d.ps.isEmpty
theorem fnScope_of {N ps : List Str} {sc : Scope} (h : fnScopeB N ps sc = true) : FnScope N ps sc := by
  unfold fnScopeB at h
  simp only [Bool.and_eq_true, Bool.not_eq_true', decide_eq_true_eq, List.all_eq_true] at h
  obtain ⟨⟨⟨⟨⟨⟨h1, h2⟩, h3⟩, h4⟩, h5⟩, h6⟩, h7⟩ := h
  refine ⟨?_, h2, h3, h4, h5, fun x hx => ?_, fun y hy e => ?_⟩
  · split at h1
    · assumption
    · cases h1
  · exact locB_loc (h6 x hx)
  · have := h7 y hy
    rw [e] at this
    cases this
theorem plainA_of {a : Arguments} (h : plainA a = true) : a.posonlyargs = [] ∧ a.kwonlyargs = [] ∧ a.vararg = none ∧ a.kwarg = none := by
  unfold plainA at h
  simp only [Bool.and_eq_true, List.isEmpty_iff, Option.isNone_iff_eq_none] at h
  exact ⟨h.1.1.1, h.1.1.2, h.1.2, h.2⟩
def trmD (c : Str) : Option D := if kindsL.contains c then some (.tuple [.str "refused", .str c]) else none
def mkTb (glob : List (Str × D)) (excs : List Str) (defs : List DI) : Tb := ⟨trmD, opD, cmpD, isiD, bfD, mtD, ixD, slD, rvD, fun y => glob.lookup y, fun c => excs.contains c, defs⟩
/-- what the head says of a table -/
structure TbOk (x : Fx) (cl : Str → Value) (t : Tb) (glob : List (Str × D)) (excs : List Str) (T : List (Addr × Str)) : Prop where
  eq : t = mkTb glob excs t.defs
  defs : ∀ d ∈ t.defs, ∃ a fd, FunD x.K d.name d.name d.params d.body d.scope [] [] a fd ∧ x.mg d.name = some (.ref a)
  ok : ∀ d ∈ t.defs, d.okB = true
  free : ∀ f ∈ (["range", "enumerate", "zip", "isinstance", "len", "list", "int", "bool", "str", "tuple", "all", "any", "sorted", "max", "min", "sum"] : List Str), x.mg f = none
  glob : ∀ p ∈ glob, ∃ u v, x.mg p.1 = some u ∧ RelV v u ∧ ∀ G, Rp x.K G v p.2
  excs : ∀ c ∈ excs, ExcC x.K x.mg cl c
  told : (∃ d ∈ t.defs, d.lamb = true) → ToldF x cl
  lamc : ∀ d ∈ t.defs, d.lamb = true → ∀ a fd, FunD x.K d.name d.name d.params d.body d.scope [] [] a fd → x.mg d.name = some (.ref a) → LamC x T fd.code (d.name ++ ".<locals>.")
theorem bf_free {mg : Str → Option Value} (h : ∀ f ∈ (["range", "enumerate", "zip", "isinstance", "len", "list", "int", "bool", "str", "tuple", "all", "any", "sorted", "max", "min", "sum"] : List Str), mg f = none) : ∀ p ∈ bfT, mg p.1 = none := by
  intro p hp
  apply h
  simp only [bfT, List.mem_cons, List.not_mem_nil, or_false] at hp
  rcases hp with h | h | h | h | h | h | h | h | h | h <;> subst h <;> simp
theorem find_mem {t : Tb} {f : Str} {d : DI} (h : t.find f = some d) : d ∈ t.defs ∧ d.name = f := by
  unfold Tb.find at h
  have q := List.find?_some h
  exact ⟨List.mem_of_find?_eq_some h, beq_iff_eq.mp q⟩
section
variable {x : Fx} {cl : Str → Value} {t : Tb} {glob : List (Str × D)} {excs : List Str}
theorem binds_of {d : DI} {a : Addr} {fd : FuncData} (F : FunD x.K d.name d.name d.params d.body d.scope [] [] a fd) (h : d.okB = true) : Binds x.K fd d.ps [] := by
  unfold DI.okB at h
  simp only [Bool.and_eq_true, decide_eq_true_eq] at h
  obtain ⟨⟨⟨h1, h2⟩, h3⟩, h4⟩ := h
  obtain ⟨q1, q2, q3, q4⟩ := plainA_of h1
  exact F.bindsN fun _ _ _ _ _ _ us hl => bind_plain q1 q2 q3 q4 rfl h3 hl
/-- what a body leans on is so, if the calls are -/
theorem prx0 {T : List (Addr × Str)} (B : TbOk x cl t glob excs T) {k : Nat} {N : List Str} {call : Str → En → Res D} {lam : Sc → Expr → M D} {told : Str → Bool}
    (hc : ∀ f d, t.find f = some d → ∃ a fd, x.mg f = some (.ref a) ∧ PySem.W.keepIn x.K (.ref a) = true ∧ Binds x.K fd d.ps [] ∧ FnOk x.P x.w x.K x.mg x.base (L2N.CX x.P x.w) k a fd d.ps (SpOf x.K T cl d.ps.length (call f)))
    (ht : ∀ y, told y = true → y = "_law_told" ∧ ToldF x cl ∧ ((∀ S e, lam S e = bad) ∨ ∃ k', k = k' + 2 ∧ ∀ (g : Gh) (W : WX) (S : Sc) (Y : Cx), On x k' Y → g.K = x.K → g.T = T → g.cl = cl →
      Y.N = N → N.Nodup → Y.env.scope = S.vis → (∀ y, locB S.asg y = false) → L2N.Takes Y W → ∀ e, PE Y e (rdE g W (lam S e))))
    (Y : Cx) (o : On x k Y) : PrX (t.cst0 N call lam told) x x.K T cl k Y := by
  have hr : ∃ k, Room k Y.A := ⟨k, o.room⟩
  have e := B.eq
  have hK := o.K
  generalize hdf : t.defs = defs at e
  subst e
  refine ⟨fun o' => ?_, fun o' => ?_, fun T' d b h => ?_, fun f ds d h => ?_, fun f hf => ?_, fun m a as d h => ?_, ?_, ?_, ?_, prim_rem, ?_, fun y d h => ?_, fun f dice n h => ?_, fun c h => ?_, fun y h => ?_⟩
  · rw [← hK]; exact prim_op o'
  · rw [← hK]; exact prim_cmp hr o'
  · have := prim_isi (X := Y) (mg := x.mg) (fun T hT => B.free T (by
      simp only [List.mem_cons, List.not_mem_nil, or_false] at hT ⊢
      rcases hT with h | h | h | h | h <;> subst h <;> simp)) T' d b h
    rw [hK] at this
    exact this
  · have := prim_bf (X := Y) (mg := x.mg) (bf_free B.free) o.calm hr f ds d h
    rw [hK] at this
    exact this
  · exact B.free f (by
      simp only [List.mem_cons, List.not_mem_nil, or_false] at hf ⊢
      rcases hf with h | h | h | h | h | h <;> subst h <;> simp)
  · have := prim_mt (X := Y) hr m a as d h
    rw [hK] at this
    exact this
  · rw [← hK]; exact prim_ix hr
  · rw [← hK]; exact prim_sl
  · intro e te j p1 p2 p3 pos he
    rw [← hK]
    exact prim_rv he
  · intro e ta p pos tpos elts kk hg ha hs
    rw [← hK]
    exact prim_enumT (by rw [o.mg]; exact B.free _ (by simp)) hg ha hs
  · exact B.glob (y, d) (lookup_mem h)
  · have h' : ((mkTb glob excs defs).find f).map (fun d => (d.dice, d.ps.length)) = some (dice, n) := h
    cases q : (mkTb glob excs defs).find f with
    | none => rw [q] at h'; cases h'
    | some d =>
      rw [q] at h'
      cases h'
      obtain ⟨a, fd, h1, h2, h3, h4⟩ := hc f d q
      have hok := B.ok d (find_mem q).1
      unfold DI.okB at hok
      simp only [Bool.and_eq_true, Bool.not_eq_true', List.isEmpty_eq_false_iff] at hok
      exact ⟨fun z => hok.2 (List.eq_nil_of_length_eq_zero z), a, fd, d.ps, h1, h2, h3, rfl, h4⟩
  · exact B.excs c (by
      have h' : excs.contains c = true := h
      exact List.contains_iff_mem.mp h')
  · obtain ⟨h1, h2, h3⟩ := ht y h
    refine ⟨h1, h2, fun c d e => ?_, h3⟩
    have e' : trmD c = some d := e
    unfold trmD at e'
    split at e'
    · rename_i hc
      exact ⟨List.contains_iff_mem.mp hc, (Option.some.inj e').symm⟩
    · cases e'
abbrev FnT (x : Fx) (cl : Str → Value) (t : Tb) (T : List (Addr × Str)) (k : Nat) (call : Str → En → Res D) : Prop := ∀ f d, t.find f = some d → ∃ a fd, x.mg f = some (.ref a) ∧ PySem.W.keepIn x.K (.ref a) = true ∧ Binds x.K fd d.ps [] ∧ FnOk x.P x.w x.K x.mg x.base (L2N.CX x.P x.w) k a fd d.ps (SpOf x.K T cl d.ps.length (call f))
theorem prx_of {T : List (Addr × Str)} (B : TbOk x cl t glob excs T) {k : Nat} {N : List Str} {lm : Bool} {call : Str → En → Res D} {low : Option (Str → En → Res D)} (hc : FnT x cl t T k call) (hlm : lm = true → ToldF x cl) (hl : low = none ∨ ∃ r k', low = some r ∧ k = k' + 2 ∧ FnT x cl t T k' r)
    (Y : Cx) (o : On x k Y) : PrX (t.cst N lm call low) x x.K T cl k Y := by
  refine prx0 B hc (fun y h => ?_) Y o
  simp only [Bool.and_eq_true] at h
  refine ⟨beq_iff_eq.mp h.2, hlm h.1, ?_⟩
  rcases hl with rfl | ⟨r, k', rfl, rfl, hr⟩
  · exact .inl fun _ _ => rfl
  · refine .inr ⟨k', rfl, fun g W S Y o2 hK hT hcl hN nd hs hlo tk e => ?_⟩
    have pr2 : ∀ Z, On x k' Z → PrX (t.low N r) x x.K T cl k' Z := fun Z oz => prx0 B hr (fun y h => by cases h) Z oz
    have o3 : XOk (t.low N r) x g W k' S Y := ⟨o2, hK, (fun Z oz => by rw [hK, hT, hcl]; exact pr2 Z oz), hN, nd, hs, (fun y hy => by rw [hlo y] at hy; cases hy), tk, (fun ⟨y, h⟩ => by cases h)⟩
    exact (sound synFuel g W S Y o3).1 e
/-- every def keeps its promise, as deep as it is asked -/
theorem table_ok {T : List (Addr × Str)} (B : TbOk x cl t glob excs T) : ∀ (k : Nat), FnT x cl t T k (runK t k)
  | 0, f, d, h => by
    obtain ⟨h1, rfl⟩ := find_mem h
    obtain ⟨a, fd, F, hm⟩ := B.defs d h1
    refine ⟨a, fd, hm, F.kp, binds_of F (B.ok d h1), ⟨fun vs H Q E q => ?_, fun A outer s H args us vs Q E _ _ _ _ q => ?_⟩⟩
    · obtain ⟨_, _, _, _, _, q⟩ := q
      exact q.elim
    · obtain ⟨_, _, _, _, _, q⟩ := q
      exact q.elim
  | k + 1, f, d, h => by
    obtain ⟨h1, e⟩ := find_mem h
    obtain ⟨a, fd, F, hm⟩ := B.defs d h1
    have hok := B.ok d h1
    have hs : FnScope d.N d.ps d.scope := by
      unfold DI.okB at hok
      simp only [Bool.and_eq_true] at hok
      exact fnScope_of hok.1.1.2
    have ih := table_ok B k
    have hlow : lowK t k = none ∨ ∃ r k', lowK t k = some r ∧ k = k' + 2 ∧ FnT x cl t T k' r := by
      match k with
      | 0 => exact .inl rfl
      | 1 => exact .inl rfl
      | j + 2 => exact .inr ⟨_, j, rfl, rfl, table_ok B j⟩
    refine ⟨a, fd, by rw [← e]; exact hm, F.kp, binds_of F hok, ?_⟩
    have key := def_ok (C := t.cst d.N d.lamb (runK t k) (lowK t k)) (x := x) (T := T) (cl := cl) (n := synFuel) (m := synFuel) F hs (fun Y o => prx_of B (N := d.N) ih (fun hl => B.told ⟨d, h1, hl⟩) hlow Y o) (fun ⟨y, hy⟩ => B.lamc d h1 (by
      have hy' : (d.lamb && y == ("_law_told" : Str)) = true := hy
      simp only [Bool.and_eq_true] at hy'
      exact hy'.1) a fd F hm)
    have er : runK t (k + 1) f = runDef (t.cst d.N d.lamb (runK t k) (lowK t k)) synFuel synFuel ⟨d.scope, d.scope⟩ d.body d.ps.length := by
      funext as
      show (match t.find f with
        | some d => runDef (t.cst d.N d.lamb (runK t k) (lowK t k)) synFuel synFuel ⟨d.scope, d.scope⟩ d.body d.ps.length as
        | none => .bad) = _
      rw [h]
    rw [er]
    exact key
end
end TD

set_option Elab.async false
set_option linter.all false
set_option maxRecDepth 100000
/-! TL1: the script's cells and rounds. -/
namespace TD
open PySem PySem.Spec PyProof.Rows L2
theorem dp_ints {K : PySem.W.Frag} {H : Hp} : ∀ ns : List Int, DpAll K H (ns.map V.int) (ns.map PyData.int)
  | [] => .nil
  | n :: ns => .cons (.int n) (dp_ints ns)
theorem lay_ints : ∀ ns : List Int, PyData.canLayAll0 (ns.map PyData.int) = true
  | [] => rfl
  | n :: ns => by
    rw [List.map_cons, PyData.canLayAll0, lay_ints ns]
    rfl
theorem shaped_ints (ns : List Int) : SeqAt.shaped (.list (ns.map PyData.int)) = true := by
  unfold SeqAt.shaped
  rw [PyData.canLay0, PyData.depth, PySem.W.depth_ints, lay_ints]
  rfl
theorem eqv_nil (ns : List Int) : PyData.eqv (.list (ns.map PyData.int)) (.list []) = decide (ns = []) := by
  cases ns with
  | nil => rfl
  | cons n ns => rfl
/-- _law_cell(script, k): some number -/
def spCell (K : PySem.W.Frag) : Sp := fun vs H Q _ => ∃ (a : Addr) (ns : List Int) (k : Nat), vs = [.ref a, .int (k : Nat)] ∧ SqL K H a (ns.map V.int) ∧ ns.length ≤ 63 ∧ k ≤ 1000 ∧ ∀ c H', Sub H H' → Q (.int c) H'
/-- _law_rounds(script, n): lists of a number and 0, all new -/
def spRounds (K : PySem.W.Frag) : Sp := fun vs H Q _ => ∃ (a : Addr) (ns : List Int) (n : Nat), vs = [.ref a, .int (n : Nat)] ∧ SqL K H a (ns.map V.int) ∧ ns.length ≤ 63 ∧ n ≤ 1000 ∧
  ∀ (p : Addr) (as : List (Addr × Int)) (H' : Hp), Sub H H' → H p = none → H' p = some (.lst (as.map fun q => V.ref q.1)) → (∀ q ∈ as, H q.1 = none ∧ q.1 ≠ p ∧ H' q.1 = some (.lst [.int q.2, .int 0])) → (as.map Prod.fst).Nodup → as.length ≤ 1000 → Q (.ref p) H'
section
variable {P : Program} {w : World} {K : PySem.W.Frag} {mg : Str → Option Value} {base : Heap} {f fc : Addr} {fd fdc : FuncData} {params : Arguments} {scope cscope : Scope} {CX : CXT} {kk : Nat}
abbrev cellSt (q1 q2 q3 q4 q5 q6 q7 q8 q9 q10 q11 q12 q13 q14 q15 q16 q17 q18 q19 q20 q21 q22 q23 q24 : Pos) : List Stmt :=
  [.If (.Compare (.Name "script" q1) [.Eq] [.List [] q2] q3) [.Return (some (.BinOp (.Name "k" q4) .Mult (.Constant (.int 7919) 0 q5) q6)) q7] [] q8,
   .Return (some (.BinOp (.Subscript (.Name "script" q9) (.BinOp (.Name "k" q10) .Mod (.Call (.Name "len" q11) [.Name "script" q12] [] q13) q14) q15) .Add
     (.BinOp (.BinOp (.Name "k" q16) .FloorDiv (.Call (.Name "len" q17) [.Name "script" q18] [] q19) q20) .Mult (.Constant (.int 104729) 0 q21) q22) q23)) q24]
abbrev roundsSt (q1 q2 q3 q4 q5 q6 q7 q8 q9 q10 q11 q12 q13 q14 q15 q16 q17 q18 q19 q20 : Pos) (cscope : Scope) : List Stmt :=
  [.Return (some (.ListComp (.List [.Call (.Name "_law_cell" q1) [.Name "script" q2, .Name "k" q3] [] q4, .Constant (.int 0) 0 q5] q6)
    [⟨.Name "k" q7, .Call (.Name "range" q8) [.Call (.Name "max" q9) [.Constant (.int 1) 0 q10, .Call (.Name "min" q11) [.Name "high" q12, .Call (.Name "len" q13) [.Name "script" q14] [] q15] [] q16] [] q17] [] q18, [], 0⟩] cscope q19)) q20]
theorem seq_len {K : PySem.W.Frag} {H : Hp} {a : Addr} {xs : List V} (h : SqL K H a xs) : LenV K (.ref a) H xs.length := .inl ⟨_, h, rfl⟩
theorem ok_cell {q1 q2 q3 q4 q5 q6 q7 q8 q9 q10 q11 q12 q13 q14 q15 q16 q17 q18 q19 q20 q21 q22 q23 q24 : Pos}
    (F : FunD K "_law_cell" "_law_cell" params (cellSt q1 q2 q3 q4 q5 q6 q7 q8 q9 q10 q11 q12 q13 q14 q15 q16 q17 q18 q19 q20 q21 q22 q23 q24) scope [] [] f fd) (hs : FnScope ["script", "k"] ["script", "k"] scope)
    (v0 : Vis scope "script") (v1 : Vis scope "k") (g : scope.names.lookup ("len" : Str) = some .globalImplicit) (hm : mg "len" = none) : FnOk P w K mg base CX (kk + 1) f fd ["script", "k"] (spCell K) := by
  refine F.ok hs (fun vs H Q E h => ?_) (fun cdv A outer s H vs Q E hr h => ⟨_, PSs.nox (pss_cons (ps_if (pt_cmpR (op_eqD hr.units) (pv 0 rfl v0) (pe_lst pa_nil) (nomark _)) (pss_one (ps_ret (pe_op op_mul (pv 1 rfl v1) pe_int))) pss_nil)
    (pss_one (ps_ret (pe_op op_add (pe_ix ix_list (pv 0 rfl v0) (pe_op op_mod (pv 1 rfl v1) (pe_callB call_len g hm boot_len (pa_cons (pv 0 rfl v0) pa_nil))) (fun _ _ => rfl))
      (pe_op op_mul (pe_op op_fdivW (pv 1 rfl v1) (pe_callB call_len g hm boot_len (pa_cons (pv 0 rfl v0) pa_nil))) pe_int))))), ?_⟩)
  · obtain ⟨a, ns, k, rfl, _⟩ := h
    rfl
  · obtain ⟨a, ns, k, rfl, hS, h63, hk, q⟩ := h
    have s0 : (L2.start ["script", "k"] [V.ref a, V.int (k : Nat)])[0]? = some (some (V.ref a)) := rfl
    have s1 : (L2.start ["script", "k"] [V.ref a, V.int (k : Nat)])[1]? = some (some (V.int (k : Nat))) := rfl
    refine ⟨_, s0, Nat.zero_le _, fun p hp => ?_⟩
    have sub : Sub H (upd H p (.lst [])) := sub_upd hp
    have hS' := sqL_sub sub hS
    refine ⟨.list (ns.map PyData.int), .list [], .lst hS' (dp_ints ns), .lst (.inl (.inl upd_same)) .nil, shaped_ints ns, rfl, _, rfl, ?_⟩
    rw [eqv_nil]
    by_cases e : ns = []
    · rw [decide_eq_true e]
      refine iteT ⟨_, s1, _, _, rfl, rfl, .inr (by decide), q _ _ sub⟩
    · rw [decide_eq_false e]
      refine iteF ?_
      have hl : 0 < ns.length := List.length_pos_iff.mpr e
      have hl2 : 0 < (ns.map V.int).length := by rw [List.length_map]; exact hl
      have hz : (ns.map V.int).length ≤ sizeLine ∨ True := .inr trivial
      have hin : k % (ns.map V.int).length < (ns.map V.int).length := Nat.mod_lt _ hl2
      refine ⟨_, s0, _, s1, _, s0, _, _, rfl, seq_len hS', _, _, rfl, rfl, by omega, ?_⟩
      have em : ((k : Nat) : Int) % (((ns.map V.int).length : Nat) : Int) = ((k % (ns.map V.int).length : Nat) : Int) := rfl
      have hin' : k % (ns.map V.int).length < ns.length := by rw [List.length_map] at hin ⊢; exact hin
      refine ⟨a, _, _, V.int (ns[k % (ns.map V.int).length]'hin'), rfl, rfl, hS', ?_, ?_⟩
      · rw [em]
        exact atI_nat (by rw [List.getElem?_map, List.getElem?_eq_getElem hin']; rfl)
      · refine ⟨_, s1, _, s0, _, _, rfl, seq_len hS', _, _, rfl, rfl, ?_, ?_⟩
        · refine ⟨by omega, ?_⟩
          have h1 : (((ns.map V.int).length : Nat) : Int).natAbs ≠ 0 := by omega
          have h2 : (((ns.map V.int).length : Nat) : Int).natAbs < 2 ^ 9000 := by
            have : (((ns.map V.int).length : Nat) : Int).natAbs ≤ 63 := by rw [List.length_map]; omega
            exact Nat.lt_of_le_of_lt this (Nat.lt_of_lt_of_le (show 63 < 2 ^ 6 by decide) (Nat.pow_le_pow_right (by decide) (by decide)))
          exact (Nat.log2_lt h1).mpr h2
        · refine ⟨_, _, rfl, rfl, .inr (by decide), _, _, rfl, rfl, q _ _ sub⟩

theorem ok_rounds {q1 q2 q3 q4 q5 q6 q7 q8 q9 q10 q11 q12 q13 q14 q15 q16 q17 q18 q19 q20 : Pos}
    (F : FunD K "_law_rounds" "_law_rounds" params (roundsSt q1 q2 q3 q4 q5 q6 q7 q8 q9 q10 q11 q12 q13 q14 q15 q16 q17 q18 q19 q20 cscope) scope [] [] f fd) (hs : FnScope ["script", "high", "k"] ["script", "high"] scope)
    (hb : blkC ["script", "high", "k"] scope cscope [("k", 2)] = true)
    (v0 : Vis scope "script") (v1 : Vis scope "high") (u0 : Vis (relS cscope scope) "script") (u1 : L2.Loc (relS cscope scope) "k") (u2 : Vis (relS cscope scope) "k") (u3 : cscope.names.lookup ("k" : Str) = some .local) (gc : (relS cscope scope).names.lookup ("_law_cell" : Str) = some .globalImplicit)
    (gl : scope.names.lookup ("len" : Str) = some .globalImplicit) (gr : scope.names.lookup ("range" : Str) = some .globalImplicit) (gx : scope.names.lookup ("max" : Str) = some .globalImplicit) (gn : scope.names.lookup ("min" : Str) = some .globalImplicit)
    (ml : mg "len" = none) (mr : mg "range" = none) (mx : mg "max" = none) (mn : mg "min" = none)
    (C : FnOk P w K mg base CX0 kk fc fdc ["script", "k"] (spCell K)) (mc : mg "_law_cell" = some (.ref fc)) (hk : PySem.W.keepIn K (.ref fc) = true) (bc : Binds K fdc ["script", "k"] []) :
    FnOk P w K mg base CX (kk + 1) f fd ["script", "high"] (spRounds K) := by
  refine F.ok hs (fun vs H Q E h => ?_) (fun cdv A outer s H vs Q E hr h => ⟨_, PSs.nox (pss_one (ps_ret (pe_lc (own := [("k", 2)]) rfl hs.nd
    (pi_range1 gr mr (pa_cons (pe_callB (call_max2 rfl) gx mx (by decide +kernel) (pa_cons pe_int (pa_cons (pe_callB (call_min2 rfl) gn mn (by decide +kernel) (pa_cons (pv 1 rfl v1) (pa_cons (pe_callB call_len gl ml boot_len (pa_cons (pv 0 rfl v0) pa_nil)) pa_nil))) pa_nil))) pa_nil))
    (blkOk_by hb) (fun s' H' Ca cl fp => pg_name (i := 2) hs.nd rfl u1 (.inr ?_)) (fun s' H' Ca cl fp => pts_nil)
    (fun s' H' Ca cl fp => pe_lst (pa_cons (pe_call C hr gc mc hk bc .nil pass0 (pa_cons (pv 0 rfl u0) (pa_cons (pv 2 rfl u2) pa_nil))) (pa_cons pe_int pa_nil)))))), ?_⟩)
  · obtain ⟨a, ns, n, rfl, _⟩ := h
    rfl
  · exact lookup_relS_keep (by simp) u3
  · obtain ⟨a, ns, n, rfl, hS, h63, hn, q⟩ := h
    have s0 : (L2.start ["script", "high", "k"] [V.ref a, V.int (n : Nat)])[0]? = some (some (V.ref a)) := rfl
    have s1 : (L2.start ["script", "high", "k"] [V.ref a, V.int (n : Nat)])[1]? = some (some (V.int (n : Nat))) := rfl
    refine ⟨_, s1, _, s0, _, _, rfl, seq_len hS, _, _, rfl, _, _, rfl, _, rfl, ?_, ?_, fun D hD => ?_⟩
    · split <;> split <;> omega
    · split <;> split <;> omega
    · refine lc_range (fun i H2 => ∃ as : List (Addr × Int), as.length = i ∧ Sub H H2 ∧ H2 D = some (.lst (as.map fun q => V.ref q.1)) ∧ (∀ q ∈ as, H q.1 = none ∧ q.1 ≠ D ∧ H2 q.1 = some (.lst [.int q.2, .int 0])) ∧ (as.map Prod.fst).Nodup)
        ⟨[], rfl, sub_upd hD, upd_same, ⟨fun q h => absurd h List.not_mem_nil, List.nodup_nil⟩⟩ (fun i H2 hi ⟨as, hl, sb, hd, ha, nd⟩ => ?_) (fun H2 ⟨as, hl, sb, hd, ha, nd⟩ => ?_)
      · have hi' : i < 1000 := by
          revert hi
          split <;> split <;> omega
        refine ⟨rfl, ?_⟩
        unfold tYes
        dsimp only
        rw [if_pos rfl]
        refine ⟨V.ref a, rfl, V.int (0 + i), rfl, a, ns, i, ?_, sqL_sub sb hS, h63, by omega, fun c H3 sb3 => ⟨by show 2 ≤ sizeLine; decide, fun p hp => ?_⟩⟩
        · show [V.ref a, V.int (0 + (i : Int))] = _
          rw [Int.zero_add]
        · have hp2 : H2 p = none := sb3.free hp
          have hpD : p ≠ D := fun e => by rw [e, hd] at hp2; cases hp2
          refine ⟨as.map fun q => V.ref q.1, ?_, ?_, as ++ [(p, c)], by simp [hl], ?_, ?_, ?_, ?_⟩
          · rw [upd_ne (Ne.symm hpD)]; exact sb3 _ _ hd
          · rw [List.length_map, hl]
            exact small1000 (by omega)
          · intro b o e
            have eb : H3 b = some o := sb3 _ _ (sb _ _ e)
            have b1 : b ≠ D := fun z => by rw [z, hD] at e; cases e
            have b2 : b ≠ p := fun z => by rw [z, hp] at eb; cases eb
            rw [upd_ne b1, upd_ne b2]
            exact eb
          · rw [upd_same, List.map_append]
            rfl
          · intro q hq
            rcases List.mem_append.mp hq with hq | hq
            · obtain ⟨a1, a2, a3⟩ := ha q hq
              have a4 := sb3 _ _ a3
              have b2 : q.1 ≠ p := fun z => by rw [z, hp] at a4; cases a4
              exact ⟨a1, a2, by rw [upd_ne a2, upd_ne b2]; exact a4⟩
            · simp only [List.mem_singleton] at hq
              subst hq
              exact ⟨sb.free hp2, hpD, by rw [upd_ne hpD, upd_same]⟩
          · rw [List.map_append, List.nodup_append]
            refine ⟨nd, by simp, fun x hx y hy e => ?_⟩
            simp only [List.map_cons, List.map_nil, List.mem_singleton] at hy
            obtain ⟨q, hq, rfl⟩ := List.mem_map.mp hx
            obtain ⟨_, _, a3⟩ := ha q hq
            rw [e, hy, hp2] at a3
            cases a3
      · refine q D as H2 sb hD hd ha nd ?_
        rw [hl]
        split <;> split <;> omega
end
end TD

set_option Elab.async false
set_option linter.all false
set_option maxRecDepth 100000
/-! TL2: the law: each round's body by the evaluator. -/
namespace TD
open PySem PySem.Spec PyProof.Rows L2
/-- the ends know the slots' number -/
def tLen (n : Nat) (t : TS) : TS := fun D σ H => t { D with nx := fun σ' H' => σ'.length = n → D.nx σ' H' } σ H
theorem PSs.len {X : Cx} {b : List Stmt} {t : TS} (h : PSs X b t) : PSs X b (tLen X.N.length t) := ⟨fun pins s σ H D I q => thn (h.run pins s σ H _ I q) fun f s' e => by
  cases f with
  | next => obtain ⟨σ', H', I', z⟩ := e; exact ⟨σ', H', I', z I'.len⟩
  | brk => exact e
  | cont => exact e
  | ret u => exact e⟩
/-- law(script): True -/
def spLaw (K : PySem.W.Frag) (T : List (Addr × Str)) : Sp := fun vs H Q _ => ∃ (a : Addr) (ns : List Int), vs = [.ref a] ∧ SqL K H a (ns.map V.int) ∧ ns.length ≤ 63 ∧ LamX.Tabs T H ∧ ∀ H', Q (.bl true) H'
abbrev lawSt (q1 q2 q3 q4 q5 q6 q7 q8 : Pos) (n : Nat) (body : List Stmt) : List Stmt :=
  [.For (.Name "dice" q1) (.Call (.Name "_law_rounds" q2) [.Name "script" q3, .Constant (.int (n : Nat)) 0 q4] [] q5) body [] q6, .Return (some (.Constant (.bool true) 0 q7)) q8]
def env0 (m i : Nat) (c : Int) : En := (List.replicate m Sl.non).set i (.own [.int c, .int 0])
section
variable {x : Fx} {cl : Str → Value} {t : Tb} {glob : List (Str × D)} {excs : List Str} {f fr : Addr} {fd fdr : FuncData} {kk : Nat}
/-- the state at a round's begin -/
theorem Rl.round {g : Gh} {H : Hp} {σ : L2.St} {m i : Nat} {q : Addr} {c : Int} (hT : LamX.Tabs g.T H) (hF : ∀ b o, g.F b = some o → H b = some o) (hl : σ.length = m) (hi : i < m) (hq : H q = some (.lst [.int c, .int 0])) (hFq : g.F q = none) :
    Rl g (fun _ => none) H (σ.set i (some (.ref q))) (env0 m i c) := by
  have hlen : (env0 m i c).length = m := by simp [env0]
  have get : ∀ (j : Nat) (s : Sl), (env0 m i c)[j]? = some s → (j = i ∧ s = .own [.int c, .int 0]) ∨ s = .non := fun j s e => by
    unfold env0 at e
    by_cases hj : j = i
    · subst hj
      rw [List.getElem?_set_self (by simpa using hi)] at e
      exact .inl ⟨rfl, (Option.some.inj e).symm⟩
    · rw [List.getElem?_set_ne (Ne.symm hj), List.getElem?_replicate] at e
      split at e
      · exact .inr (Option.some.inj e).symm
      · cases e
  have atI : ∀ j a, At (env0 m i c) (σ.set i (some (.ref q))) j a → j = i := fun j a p => by
    have p1 := p.1
    unfold TD.lent at p1
    cases e : (env0 m i c)[j]? with
    | none => rw [e] at p1; cases p1
    | some s =>
      rcases get j s e with ⟨h, _⟩ | rfl
      · exact h
      · rw [e] at p1; cases p1
  refine ⟨by rw [hlen, List.length_set, hl], ⟨(fun _ _ e => by cases e), (fun _ _ e => by cases e)⟩, fun b o e _ => hF b o e, fun b o e => ⟨⟨o, hF b o e⟩, rfl⟩, hT, fun j s e => ?_, fun j l a p p' => by rw [atI j a p, atI l a p']⟩
  rcases get j s e with ⟨rfl, rfl⟩ | rfl
  · exact ⟨q, [.int c, .int 0], List.getElem?_set_self (by rw [hl]; exact hi), hq, rfl, hFq, by show 2 ≤ sizeLine; decide, .cons (.int c) (.cons (.int 0) .nil)⟩
  · trivial
theorem low_ok {T : List (Addr × Str)} (B : TbOk x cl t glob excs T) : ∀ kk, lowK t kk = none ∨ ∃ r k', lowK t kk = some r ∧ kk = k' + 2 ∧ FnT x cl t T k' r
  | 0 => .inl rfl
  | 1 => .inl rfl
  | j + 2 => .inr ⟨_, j, rfl, rfl, table_ok B j⟩
theorem ok_law {T : List (Addr × Str)} (B : TbOk x cl t glob excs T) {d : DI} {q1 q2 q3 q4 q5 q6 q7 q8 : Pos} {n i : Nat} {body : List Stmt} (F : FunD x.K "law" "law" d.params (lawSt q1 q2 q3 q4 q5 q6 q7 q8 n body) d.scope [] [] f fd) (hmem : d ∈ t.defs) (hnm : d.name = "law") (hbd : d.body = lawSt q1 q2 q3 q4 q5 q6 q7 q8 n body) (hmg : x.mg "law" = some (.ref f)) (hok : d.okB = true) (hps : d.ps = [("script" : Str)]) (hn : n ≤ 1000)
    (h0 : d.N[0]? = some ("script" : Str)) (hi : d.N[i]? = some ("dice" : Str)) (vs : Vis d.scope "script") (ld : L2.Loc d.scope "dice") (gr : d.scope.names.lookup ("_law_rounds" : Str) = some .globalImplicit)
    (Rn : FnOk x.P x.w x.K x.mg x.base CX0 kk fr fdr ["script", "high"] (spRounds x.K)) (mr : x.mg "_law_rounds" = some (.ref fr)) (hk : PySem.W.keepIn x.K (.ref fr) = true) (br : Binds x.K fdr ["script", "high"] [])
    (run : ∀ c : Int, ∃ e, blockL (exec (t.cst d.N d.lamb (runK t kk) (lowK t kk)) synFuel ⟨d.scope, d.scope⟩ synFuel) body (env0 d.N.length i c) = .ok .next e) :
    FnOk x.P x.w x.K x.mg x.base (L2N.CX x.P x.w) (kk + 1) f fd ["script"] (spLaw x.K T) := by
  have hs : FnScope d.N ["script"] d.scope := by
    unfold DI.okB at hok
    simp only [Bool.and_eq_true] at hok
    rw [← hps]
    exact fnScope_of hok.1.1.2
  have hil : i < d.N.length := (List.getElem?_eq_some_iff.mp hi).1
  have hlam : d.lamb = true → LamC x T fd.code (("law" : Str) ++ ".<locals>.") := fun hl => by
    have := B.lamc d hmem hl f fd (by rw [hnm, hbd]; exact F) (by rw [hnm]; exact hmg)
    rw [hnm] at this
    exact this
  have hlow := low_ok B kk
  obtain ⟨oc, od, dV, kV, doc, pm, an, cdv, ct, osl, efd, lk, hcd, _, _⟩ := F.ex
  have hlam' : d.lamb = true → LamC x T cdv (("law" : Str) ++ ".<locals>.") := by
    rw [efd] at hlam
    exact hlam
  clear hlam
  subst efd
  refine fn_of lk hcd hs (fun vs H Q E h => ?_) (fun A outer s H vs' Q E hr h => ?_)
  · obtain ⟨a, ns, rfl, _⟩ := h
    rfl
  · obtain ⟨a, ns, rfl, hS, h63, hTb, q⟩ := h
    have e1 : (cxOf (L2N.CX x.P x.w) x.P x.w x.K x.mg x.base d.N "law" d.scope f cdv A outer s H E).env.code = cdv := rfl
    have e2 : (cxOf (L2N.CX x.P x.w) x.P x.w x.K x.mg x.base d.N "law" d.scope f cdv A outer s H E).env.qual = ("law" : Str) ++ ".<locals>." := rfl
    have o : ∀ Fh : Hp, XOk (t.cst d.N d.lamb (runK t kk) (lowK t kk)) x ⟨x.K, T, fun _ => none, Fh, cl⟩ (fun cls d _ H => E cls d H) kk ⟨d.scope, d.scope⟩ (cxOf (L2N.CX x.P x.w) x.P x.w x.K x.mg x.base d.N "law" d.scope f cdv A outer s H E) := fun Fh =>
      ⟨⟨rfl, rfl, rfl, rfl, rfl, rfl, hr⟩, rfl, fun Y oY => prx_of B (N := d.N) (table_ok B kk) (fun hl => B.told ⟨d, hmem, hl⟩) hlow Y oY, rfl, hs.nd, rfl, fun y _ => .inl rfl, L2N.takes_of rfl rfl rfl rfl, fun ⟨y, hy⟩ => by
        have hy' : (d.lamb && y == ("_law_told" : Str)) = true := hy
        simp only [Bool.and_eq_true] at hy'
        rw [e1, e2]
        exact hlam' hy'.1⟩
    have hp : PassesOwn (model x.P x.w) (cxOf (L2N.CX x.P x.w) x.P x.w x.K x.mg x.base d.N "law" d.scope f cdv A outer s H E).A (cxOf (L2N.CX x.P x.w) x.P x.w x.K x.mg x.base d.N "law" d.scope f cdv A outer s H E).env (cxOf (L2N.CX x.P x.w) x.P x.w x.K x.mg x.base d.N "law" d.scope f cdv A outer s H E).xe := passes_of rfl
    have hb : PSs (cxOf (L2N.CX x.P x.w) x.P x.w x.K x.mg x.base d.N "law" d.scope f cdv A outer s H E) body (fun D σ H1 => ∃ Fh : Hp, rdS ⟨x.K, T, fun _ => none, Fh, cl⟩ (fun cls d _ H => E cls d H) (blockL (exec (t.cst d.N d.lamb (runK t kk) (lowK t kk)) synFuel ⟨d.scope, d.scope⟩ synFuel) body) D σ H1) :=
      ⟨fun pins s' σ H1 D I ⟨Fh, z⟩ => (pss_block (sound_X (n := synFuel) (o Fh) hp synFuel) body).run pins s' σ H1 D I z⟩
    refine ⟨_, pss_cons (ps_for hp rfl (pi_list (pe_call Rn hr gr mr hk br .nil pass0 (pa_cons (pv 0 h0 vs) (pa_cons pe_int pa_nil)))) (pg_name (i := i) hs.nd hi ld (.inl rfl)) (PSs.len hb)) (pss_one (ps_ret pe_bl)), ?_⟩
    refine ⟨.ref a, rfl, a, ns, n, rfl, hS, h63, hn, fun p as H1 sb hp0 hpl ha nd hl => ?_⟩
    refine ⟨p, rfl, ⟨_, .inl (.inl hpl)⟩, ?_⟩
    refine ⟨fun j m σ H2 => m = as.length - j ∧ j ≤ as.length ∧ σ.length = d.N.length ∧ LamX.Tabs T H2 ∧ H2 p = some (.lst (as.map fun q => V.ref q.1)) ∧ ∀ q ∈ as.drop j, H2 q.1 = some (.lst [.int q.2, .int 0]), ⟨as.length, rfl, Nat.zero_le _, ?_, hTb.ext sb, hpl, fun q hq => (ha q (List.mem_of_mem_drop hq)).2.2⟩, ?_⟩
    · unfold L2.start
      have : 0 < d.N.length := by omega
      simp
      omega
    · rintro j m σ H2 ⟨rfl, hj, hlen, hT2, hp2, hla⟩
      by_cases hlt : j < as.length
      · refine .inr ⟨⟨_, V.ref as[j].1, .inl (.inl hp2), by rw [List.getElem?_map, List.getElem?_eq_getElem hlt]; rfl⟩, fun σ' H' => σ'.length = d.N.length ∧ LamX.Tabs T H' ∧ H' p = some (.lst (as.map fun q => V.ref q.1)) ∧ ∀ q ∈ as.drop (j + 1), H' q.1 = some (.lst [.int q.2, .int 0]), fun σ' H' ⟨a1, a0, a2, a3⟩ => ⟨as.length - (j + 1), by omega, rfl, hlt, a1, a0, a2, a3⟩, fun y H' hy => ?_⟩
        obtain ⟨rfl, hy⟩ := hy
        have hy2 := hy _ (.inl (.inl hp2))
        rw [List.getElem?_map, List.getElem?_eq_getElem hlt] at hy2
        have hy3 : V.ref as[j].1 = y := Option.some.inj hy2
        subst hy3
        have hmem : as[j] ∈ as.drop j := by rw [List.drop_eq_getElem_cons hlt]; exact List.mem_cons_self
        have hqj := hla _ hmem
        have hnp : as[j].1 ≠ p := (ha _ (List.getElem_mem hlt)).2.1
        have hnl : as[j].1 ∉ (as.drop (j + 1)).map Prod.fst := fun hm => by
          have nd2 : ((as.drop j).map Prod.fst).Nodup := by
            rw [List.map_drop]
            exact List.Nodup.sublist (List.drop_sublist _ _) nd
          rw [List.drop_eq_getElem_cons hlt, List.map_cons, List.nodup_cons] at nd2
          exact nd2.1 hm
        obtain ⟨e, he⟩ := run as[j].2
        have later : ∀ q ∈ as.drop (j + 1), q ∈ as.drop j := fun q hq => by rw [List.drop_eq_getElem_cons hlt]; exact List.mem_cons_of_mem _ hq
        let Fh : Hp := fun b => if b = p ∨ b ∈ (as.drop (j + 1)).map Prod.fst then H' b else none
        have hF : ∀ b o, Fh b = some o → H' b = some o := fun b o z => by
          have z2 : (if b = p ∨ b ∈ (as.drop (j + 1)).map Prod.fst then H' b else none) = some o := z
          split at z2
          · exact z2
          · cases z2
        have hFq : Fh as[j].1 = none := if_neg fun z => z.elim hnp hnl
        refine ⟨Fh, _, _, Rl.round (g := ⟨x.K, T, fun _ => none, Fh, cl⟩) hT2 hF hlen hil hqj hFq, ?_⟩
        rw [he]
        intro σ' G' H3 R' _ hl'
        refine ⟨hl', R'.tabs, ?_, fun q hq => ?_⟩
        · exact R'.frame p _ (show Fh p = some _ from (if_pos (.inl rfl)).trans hp2) (by simp)
        · exact R'.frame q.1 _ (show Fh q.1 = some _ from (if_pos (.inr (List.mem_map.mpr ⟨q, hq, rfl⟩))).trans (hla q (later q hq))) (by simp)
      · exact .inl ⟨⟨_, .inl (.inl hp2), by rw [List.length_map]; omega⟩, q H2⟩
end
end TD

set_option Elab.async false
set_option linter.all false
set_option maxRecDepth 100000
/-! TC1: what the evaluator makes of a def, names resolved. -/
namespace TD
open PySem

def negM (x : D) : M D := match x with
  | .int i => ret (.int (-i))
  | _ => bad
def notM (x : D) : M D := match x with
  | .bool b => ret (.bool !b)
  | _ => bad
def opM (o : Operator) (A B : M D) : M D := bnd A fun x => bnd B fun y => opt (opD o x y)
def andM (A B : M D) : M D := bnd A fun x => match x with
  | .bool c => if c then B else ret (.bool false)
  | _ => bad
def orM (A B : M D) : M D := bnd A fun x => match x with
  | .bool c => if c then ret (.bool true) else B
  | _ => bad
def cmpM (o : CmpOp) (A B : M D) : M D := bnd A fun x => bnd B fun y => bnd (opt (cmpD o x y)) fun c => ret (.bool c)
def cmp2M (o o' : CmpOp) (A B Z : M D) : M D := bnd A fun x => bnd B fun y => bnd (opt (cmpD o x y)) fun k =>
  if k then bnd Z fun z => bnd (opt (cmpD o' y z)) fun k' => ret (.bool k') else ret (.bool false)
def cmpB (o : CmpOp) (A B : M D) : M Bool := bnd A fun x => bnd B fun y => opt (cmpD o x y)
def cmp2B (o o' : CmpOp) (A B Z : M D) : M Bool := bnd A fun x => bnd B fun y => bnd (opt (cmpD o x y)) fun k =>
  if k then bnd Z fun z => opt (cmpD o' y z) else ret false
def andB (A B : M Bool) : M Bool := bnd A fun c => if c then B else ret false
def orB (A B : M Bool) : M Bool := bnd A fun c => if c then ret true else B
def notB (A : M Bool) : M Bool := bnd A fun b => ret (!b)
def ifM {α : Type} (T : M Bool) (A B : M α) : M α := bnd T fun c => if c then A else B
def seqM {α : Type} : List (M α) → M (List α)
  | [] => ret []
  | m :: ms => bnd m fun d => bnd (seqM ms) fun ds => ret (d :: ds)
def tupM (l : List (M D)) : M D := bnd (seqM l) fun ds => if ds.length ≤ lim then ret (.tuple ds) else bad
def lstM (l : List (M D)) : M D := bnd (seqM l) fun ds => if ds.length ≤ lim then ret (.list ds) else bad
def partM (A : M D) : M (Option Int) := bnd A fun x => match x with
  | .int i => ret (some i)
  | _ => bad
def slM (A : M D) (lo hi : M (Option Int)) : M D := bnd A fun x => bnd lo fun l => bnd hi fun h => opt (slD x l h)
def rvM (A : M D) : M D := bnd A fun x => opt (rvD x)
def lentN (i : Nat) (env : En) : Option Nat := match lent i env with
  | some _ => some i
  | none => none
def ixM (A I : M D) : M D := bnd A fun x => bnd I fun y => opt (ixD x y)
def ixN (i : Nat) (A I : M D) : M D := fun env => match lentN i env with
  | some j => (bnd I fun y => fun env' => match lent j env', y with
    | some ds, .int k => if 0 ≤ k then (match ds[k.toNat]? with
      | some d => .ok d env'
      | none => .bad) else .bad
    | _, _ => .bad) env
  | none => (bnd A fun x => bnd I fun y => opt (ixD x y)) env
def callV (call : Str → En → Res D) (g : Str) (k : Nat) (l : List (M D)) : M D := bnd (seqM l) fun ds => fun env => if ds.length = k then (match call g (ds.map .val) with
    | .ok d _ => .ok d env
    | .exc c _ => .exc c env
    | .bad => .bad) else .bad
def callP (call : Str → En → Res D) (g : Str) (k : Nat) (j : Nat) (l : List (M D)) : M D := fun env => (match lentN j env with
      | some i => (bnd (seqM l) fun ds => fun env => if ds.length + 1 = k then (match lent i env with
          | some cs => (match call g (.par cs :: ds.map .val) with
            | .ok d (.par cs' :: _) => .ok d (putL i cs' env)
            | .exc c (.par cs' :: _) => .exc c (putL i cs' env)
            | _ => .bad)
          | none => .bad) else .bad) env
      | none => .bad)
/-- how a deed ends -/
def lowM (low : Option (Str → En → Res D)) (B : (Str → En → Res D) → M D) : M D := match low with
  | some r => B r
  | none => bad
def tolM (low : Option (Str → En → Res D)) (B : (Str → En → Res D) → M D) : M D := toldM trmD (lowM low B)
def isiM (T : Str) (A : M D) : M D := bnd (noExc A) fun d => bnd (opt (isiD T d)) fun b => ret (.bool b)
def bfM (h : List D → Option D) (l : List (M D)) : M D := bnd (noExc (seqM l)) fun ds => opt (h ds)
def lenN (i : Nat) (A : M D) : M D := fun env => (match lentN i env with
  | some j => (match lent j env with
    | some ds => .ok (.int ds.length) env
    | none => .bad)
  | none => (bfM lenD [A]) env)
def mtM (h : D → List D → Option D) (A : M D) (l : List (M D)) : M D := bnd (noExc A) fun x => bnd (noExc (seqM l)) fun ds => opt (h x ds)
/-- a method of a name: O where the name is a list of ours -/
def mtN (i : Nat) (O : Nat → M D) (R : M D) : M D := fun env => (match lentN i env with
  | some j => O j env
  | none => R env)
def appM (A : M D) (i : Nat) : M D := bnd A fun d => fun env => (match lent i env with
  | some ds => if ds.length < lim then .ok .none (putL i (ds ++ [d]) env) else .bad
  | none => .bad)
def popM (i : Nat) : M D := fun env => (match lent i env with
  | some ds => (match ds.getLast? with
    | some d => .ok d (putL i ds.dropLast env)
    | none => .bad)
  | none => .bad)
def popAtM (A : M D) (i : Nat) : M D := bnd A fun x => fun env => (match x, lent i env with
  | .int k, some ds => if 0 ≤ k ∧ k < ds.length then (match ds[k.toNat]? with
    | some d => .ok d (putL i (ds.eraseIdx k.toNat) env)
    | none => .bad) else .bad
  | _, _ => .bad)
def isStrD (d : D) : Bool := match d with
  | .str _ => true
  | _ => false
def isThis (z : Str) (d : D) : Bool := match d with
  | .str y => y == z
  | _ => false
def remM (A : M D) (i : Nat) : M D := bnd A fun x => fun env => (match x, lent i env with
  | .str z, some ds => if ds.all isStrD then (match ds.findIdx? (isThis z) with
    | some j => .ok .none (putL i (ds.eraseIdx j) env)
    | none => .bad) else .bad
  | _, _ => .bad)
/-- targets -/
inductive Tg where
  | nm (i : Nat)
  | tp (l : List Tg)
def asgsP (f : Tg → D → M Unit) : List Tg → List D → M Unit
  | [], [] => ret ()
  | e :: es, d :: ds => bnd (f e d) fun _ => asgsP f es ds
  | _, _ => bad
def asgP : Nat → Tg → D → M Unit
  | 0, _, _ => bad
  | n + 1, e, d => match e with
    | .nm i => wrSlot i (.val d)
    | .tp es => (match d with
      | .tuple ds => asgsP (asgP n) es ds
      | .list ds => asgsP (asgP n) es ds
      | _ => bad)
/-- what a for walks -/
def seqI (A : M D) : M (List D) := bnd A fun x => opt (seqOf x)
def rng1 (A : M D) : M (List D) := bnd A fun x => (match x with
  | .int n => if smallI n then ret (upTo 0 n.toNat) else bad
  | _ => bad)
def rng2 (A B : M D) : M (List D) := bnd A fun x => bnd B fun y => (match x, y with
  | .int lo, .int hi => if smallI lo && smallI hi then ret (upTo lo (hi - lo).toNat) else bad
  | _, _ => bad)
def enuI (A : M D) : M (List D) := bnd A fun x => (match x with
  | .list ds => ret (numbered ds)
  | .tuple ds => ret (numbered ds)
  | _ => bad)
def zipI (A B : M D) : M (List D) := bnd A fun x => bnd B fun y => (match x, y with
  | .list xs, .list ys => ret (pairUp xs ys)
  | .tuple xs, .tuple ys => ret (pairUp xs ys)
  | _, _ => bad)
def compM (vs : List Nat) (I : M (List D)) (t : Tg) (T : M Bool) (E : M D) : M D := bnd I fun items => bnd (inner vs (compL vs (asgP 3 t) T E items)) fun ds => ret (.list ds)
/-! statements -/
def sq (a b : M Fl) : M Fl := bnd a fun x => match x with
  | .next => b
  | x => ret x
def blk : List (M Fl) → M Fl
  | [] => ret .next
  | a :: r => sq a (blk r)
def exS (A : M D) : M Fl := bnd A fun _ => ret .next
def retS (A : M D) : M Fl := bnd A fun d => ret (.ret d)
def raiS (c : Str) : M Fl := fun env => .exc c env
def valR (A : M D) : M Sl := bnd A fun d => ret (.val d)
def ownR (l : List (M D)) : M Sl := bnd (seqM l) fun ds => if ds.length ≤ lim then ret (.own ds) else bad
def cpyR (A : M D) : M Sl := bnd A fun d => (match d with
  | .list ds => ret (.own ds)
  | .tuple ds => ret (.own ds)
  | _ => bad)
def setS (i : Nat) (R : M Sl) : M Fl := bnd R fun v => bnd (wrSlot i v) fun _ => ret .next
def wrL : List Nat → List Sl → M Unit
  | [], [] => ret ()
  | i :: es, v :: vs => bnd (wrL es vs) fun _ => wrSlot i v
  | _, _ => bad
def setL (is : List Nat) (l : List (M Sl)) : M Fl := bnd (seqM l) fun vs => bnd (wrL is vs) fun _ => ret .next
def unpS (t : Tg) (A : M D) : M Fl := bnd A fun d => bnd (asgP 3 t d) fun _ => ret .next
def itmS (j : Nat) (I A : M D) : M Fl := bnd A fun d => fun env => (match lentN j env with
  | some j => (bnd I fun y => fun env' => match lent j env', y with
    | some ds, .int k => if 0 ≤ k ∧ k < ds.length then .ok .next (putL j (ds.set k.toNat d) env') else .bad
    | _, _ => .bad) env
  | none => .bad)
def ifD (T : M Bool) (A B : M Fl) : M Fl := bnd T fun c => if c then A else B
def ifS (T : M Bool) (A B : M Fl) : M Fl := bnd (borrow T) fun c => if c then A else B
def forS (t : Tg) (I : M (List D)) (B : M Fl) : M Fl := bnd I fun items => forL (asgP 3 t) B items
def whlS (T : M Bool) (B : M Fl) : M Fl := whileL (borrow T) B whileFuel
def defC (k m : Nat) (B : M Fl) (args : En) : Res D := if args.length = k then ended args (B (args ++ List.replicate m .non)) else .bad
end TD

set_option Elab.async false
set_option linter.all false
set_option maxRecDepth 100000
/-! TV1: typed data, and what the primitives do to it. -/
namespace TD
open PySem
/-- names of folk: any number of them, rising -/
structure Nms where
  nm : Nat → Str
  mono : ∀ i j, decide ((nm i).cps.toList < (nm j).cps.toList) = decide (i < j)
  ok : ∀ i, PyData.strOk (nm i) = true
theorem Nms.inj (n : Nms) {i j : Nat} (h : n.nm i = n.nm j) : i = j := by
  have h1 := n.mono i j
  have h2 := n.mono j i
  rw [h] at h1 h2
  have h0 : decide ((n.nm j).cps.toList < (n.nm j).cps.toList) = false := decide_eq_false (List.lt_irrefl _)
  rw [h0] at h1 h2
  have a1 := of_decide_eq_false h1.symm
  have a2 := of_decide_eq_false h2.symm
  omega
abbrev Ev := Bool × Nat
abbrev Day := List Ev
def wordS (b : Bool) : Str := if b then "comes" else "leaves"
def wordD (b : Bool) : D := .str (wordS b)
def nmD (n : Nms) (i : Nat) : D := .str (n.nm i)
def evD (n : Nms) (e : Ev) : D := .tuple [wordD e.1, nmD n e.2]
def dayD (n : Nms) (es : Day) : D := .list (es.map (evD n))
def nsL (n : Nms) (l : List Nat) : D := .list (l.map (nmD n))
def nsT (n : Nms) (l : List Nat) : D := .tuple (l.map (nmD n))
def intsL (l : List Int) : D := .list (l.map .int)
def intsT (l : List Int) : D := .tuple (l.map .int)
def boolsL (l : List Bool) : D := .list (l.map .bool)

theorem str_eqv (a b : Str) : PyData.eqv (.str a) (.str b) = decide (a = b) := by
  rw [PyData.eqv]
  by_cases h : a = b
  · simp [h]
  · simp [h]
theorem nm_eqv (n : Nms) (i j : Nat) : PyData.eqv (nmD n i) (nmD n j) = decide (i = j) := by
  unfold nmD
  rw [str_eqv]
  by_cases h : i = j
  · simp [h]
  · simp [h]; exact fun e => h (n.inj e)
theorem word_eqv (a b : Bool) : PyData.eqv (wordD a) (wordD b) = decide (a = b) := by
  cases a <;> cases b <;> decide +kernel
theorem ev_eqv (n : Nms) (a b : Ev) : PyData.eqv (evD n a) (evD n b) = decide (a = b) := by
  obtain ⟨a1, a2⟩ := a
  obtain ⟨b1, b2⟩ := b
  unfold evD
  rw [PyData.eqv]
  simp only [PyData.eqvAll, word_eqv, nm_eqv, Prod.mk.injEq, Bool.and_true]
  by_cases h1 : a1 = b1 <;> by_cases h2 : a2 = b2 <;> simp [h1, h2]
/-- lists of what can be told apart -/
theorem all_eqv {α : Type} [DecidableEq α] {enc : α → D} (h : ∀ a b, PyData.eqv (enc a) (enc b) = decide (a = b)) : ∀ as bs : List α, PyData.eqvAll (as.map enc) (bs.map enc) = decide (as = bs)
  | [], [] => by simp [PyData.eqvAll]
  | [], b :: bs => by simp [PyData.eqvAll]
  | a :: as, [] => by simp [PyData.eqvAll]
  | a :: as, b :: bs => by
    rw [List.map_cons, List.map_cons, PyData.eqvAll, h, all_eqv h as bs]
    by_cases h1 : a = b <;> by_cases h2 : as = bs <;> simp [h1, h2]
theorem list_eqv {α : Type} [DecidableEq α] {enc : α → D} (h : ∀ a b, PyData.eqv (enc a) (enc b) = decide (a = b)) (as bs : List α) : PyData.eqv (.list (as.map enc)) (.list (bs.map enc)) = decide (as = bs) := by
  rw [PyData.eqv]; exact all_eqv h as bs
theorem tuple_eqv {α : Type} [DecidableEq α] {enc : α → D} (h : ∀ a b, PyData.eqv (enc a) (enc b) = decide (a = b)) (as bs : List α) : PyData.eqv (.tuple (as.map enc)) (.tuple (bs.map enc)) = decide (as = bs) := by
  rw [PyData.eqv]; exact all_eqv h as bs
theorem day_eqv (n : Nms) (a b : Day) : PyData.eqv (dayD n a) (dayD n b) = decide (a = b) := list_eqv (ev_eqv n) a b
theorem nsL_eqv (n : Nms) (a b : List Nat) : PyData.eqv (nsL n a) (nsL n b) = decide (a = b) := list_eqv (nm_eqv n) a b
theorem nsT_eqv (n : Nms) (a b : List Nat) : PyData.eqv (nsT n a) (nsT n b) = decide (a = b) := tuple_eqv (nm_eqv n) a b
theorem int_eqv (a b : Int) : PyData.eqv (.int a) (.int b) = decide (a = b) := by
  rw [PyData.eqv]
  by_cases h : a = b <;> simp [h]
theorem bool_eqv (a b : Bool) : PyData.eqv (.bool a) (.bool b) = decide (a = b) := by
  rw [PyData.eqv]
  by_cases h : a = b <;> simp [h]
theorem intsT_eqv (a b : List Int) : PyData.eqv (intsT a) (intsT b) = decide (a = b) := tuple_eqv int_eqv a b
theorem intsL_eqv (a b : List Int) : PyData.eqv (intsL a) (intsL b) = decide (a = b) := list_eqv int_eqv a b

/-! ### what can be laid and compared -/
def Good (k : Nat) (d : D) : Prop := PyData.canLay0 d = true ∧ d.depth ≤ k
theorem Good.mono {j k : Nat} {d : D} (h : Good j d) (le : j ≤ k) : Good k d := ⟨h.1, Nat.le_trans h.2 le⟩
theorem Good.shaped {k : Nat} {d : D} (h : Good k d) (le : k ≤ 64) : SeqAt.shaped d = true := by
  unfold SeqAt.shaped
  rw [h.1, decide_eq_true (Nat.le_trans h.2 le)]
  rfl
theorem good_all {k : Nat} : ∀ {ds : List D}, (∀ d ∈ ds, Good k d) → PyData.canLayAll0 ds = true ∧ PyData.depthAll ds ≤ k
  | [], _ => ⟨rfl, Nat.zero_le _⟩
  | d :: ds, h => by
    obtain ⟨h1, h2⟩ := h d (by simp)
    obtain ⟨h3, h4⟩ := good_all (ds := ds) fun e he => h e (by simp [he])
    rw [PyData.canLayAll0, PyData.depthAll, h1, h3]
    exact ⟨rfl, Nat.max_le.mpr ⟨h2, h4⟩⟩
theorem Good.list {k : Nat} {ds : List D} (h : ∀ d ∈ ds, Good k d) : Good (k + 1) (.list ds) := by
  obtain ⟨h1, h2⟩ := good_all h
  refine ⟨by rw [PyData.canLay0]; exact h1, by rw [PyData.depth]; omega⟩
theorem Good.tuple {k : Nat} {ds : List D} (h : ∀ d ∈ ds, Good k d) : Good (k + 1) (.tuple ds) := by
  obtain ⟨h1, h2⟩ := good_all h
  refine ⟨by rw [PyData.canLay0]; exact h1, by rw [PyData.depth]; omega⟩
theorem Good.str {x : Str} (h : PyData.strOk x = true) : Good 0 (.str x) := ⟨by rw [PyData.canLay0]; exact h, Nat.le_refl _⟩
theorem good_word (b : Bool) : Good 0 (wordD b) := Good.str (by cases b <;> decide +kernel)
theorem Good.int (x : Int) : Good 0 (.int x) := ⟨rfl, Nat.le_refl _⟩
theorem Good.bool (x : Bool) : Good 0 (.bool x) := ⟨rfl, Nat.le_refl _⟩
theorem Good.none : Good 0 .none := ⟨rfl, Nat.le_refl _⟩
theorem Good.map {α : Type} {k : Nat} {enc : α → D} (h : ∀ a, Good k (enc a)) (l : List α) : ∀ d ∈ l.map enc, Good k d := fun d hd => by
  obtain ⟨a, _, rfl⟩ := List.mem_map.mp hd
  exact h a
theorem good_nm (n : Nms) (i : Nat) : Good 0 (nmD n i) := Good.str (n.ok i)
theorem good_ev (n : Nms) (e : Ev) : Good 1 (evD n e) := Good.tuple fun d hd => by
  simp only [List.mem_cons, List.not_mem_nil, or_false] at hd
  rcases hd with h | h <;> subst h
  · exact good_word _
  · exact good_nm n _
theorem good_day (n : Nms) (es : Day) : Good 2 (dayD n es) := Good.list (Good.map (good_ev n) es)
theorem good_nsL (n : Nms) (l : List Nat) : Good 1 (nsL n l) := Good.list (Good.map (good_nm n) l)
theorem good_nsT (n : Nms) (l : List Nat) : Good 1 (nsT n l) := Good.tuple (Good.map (good_nm n) l)
theorem good_intsL (l : List Int) : Good 1 (intsL l) := Good.list (Good.map Good.int l)
theorem good_intsT (l : List Int) : Good 1 (intsT l) := Good.tuple (Good.map Good.int l)

/-! ### the primitives on them -/
theorem cmp_eq {j k : Nat} {a b : D} (ha : Good j a) (hb : Good k b) (h1 : j ≤ 64 := by decide) (h2 : k ≤ 64 := by decide) : cmpD .Eq a b = some (PyData.eqv a b) := by
  show (if (SeqAt.shaped a && SeqAt.shaped b) = true then some (PyData.eqv a b) else none) = _
  rw [ha.shaped h1, hb.shaped h2]
  rfl
theorem cmp_ne {j k : Nat} {a b : D} (ha : Good j a) (hb : Good k b) (h1 : j ≤ 64 := by decide) (h2 : k ≤ 64 := by decide) : cmpD .NotEq a b = some (!PyData.eqv a b) := by
  show (if (SeqAt.shaped a && SeqAt.shaped b) = true then some (!PyData.eqv a b) else none) = _
  rw [ha.shaped h1, hb.shaped h2]
  rfl
theorem any_enc {α : Type} [DecidableEq α] {enc : α → D} (h : ∀ a b, PyData.eqv (enc a) (enc b) = decide (a = b)) (x : α) : ∀ l : List α, ((l.map enc).any fun z => PyData.eqv z (enc x)) = decide (x ∈ l)
  | [] => by simp
  | a :: l => by
    rw [List.map_cons, List.any_cons, h, any_enc h x l]
    by_cases h1 : a = x <;> by_cases h2 : x ∈ l <;> simp [h1, h2]
    all_goals exact fun e => h1 e.symm
theorem in_list {α : Type} [DecidableEq α] {k : Nat} {enc : α → D} (h : ∀ a b, PyData.eqv (enc a) (enc b) = decide (a = b)) (g : ∀ a, Good k (enc a)) (hk : k ≤ 63) (x : α) (l : List α) : inD (enc x) (.list (l.map enc)) = some (decide (x ∈ l)) := by
  have g1 := (Good.list (Good.map g l)).shaped (by omega)
  have g2 := (g x).shaped (by omega)
  unfold inD
  dsimp only
  rw [g1, g2, any_enc h]
  rfl
theorem in_tuple {α : Type} [DecidableEq α] {k : Nat} {enc : α → D} (h : ∀ a b, PyData.eqv (enc a) (enc b) = decide (a = b)) (g : ∀ a, Good k (enc a)) (hk : k ≤ 63) (x : α) (l : List α) : inD (enc x) (.tuple (l.map enc)) = some (decide (x ∈ l)) := by
  have g1 := (Good.tuple (Good.map g l)).shaped (by omega)
  have g2 := (g x).shaped (by omega)
  unfold inD
  dsimp only
  rw [g1, g2, any_enc h]
  rfl
theorem count_enc {α : Type} [DecidableEq α] {enc : α → D} (h : ∀ a b, PyData.eqv (enc a) (enc b) = decide (a = b)) (x : α) : ∀ l : List α, ((l.map enc).countP fun z => PyData.eqv z (enc x)) = l.countP fun z => decide (z = x)
  | [] => rfl
  | a :: l => by
    rw [List.map_cons, List.countP_cons, h, count_enc h x l, List.countP_cons]
theorem find_enc {α : Type} [DecidableEq α] {enc : α → D} (h : ∀ a b, PyData.eqv (enc a) (enc b) = decide (a = b)) (x : α) : ∀ l : List α, ((l.map enc).findIdx? fun z => PyData.eqv z (enc x)) = l.findIdx? fun z => decide (z = x)
  | [] => rfl
  | a :: l => by
    rw [List.map_cons, List.findIdx?_cons, List.findIdx?_cons, h, find_enc h x l]
theorem cnt_list {α : Type} [DecidableEq α] {k : Nat} {enc : α → D} (h : ∀ a b, PyData.eqv (enc a) (enc b) = decide (a = b)) (g : ∀ a, Good k (enc a)) (hk : k ≤ 63) (x : α) (l : List α) : cntM (.list (l.map enc)) [enc x] = some (.int (l.countP fun z => decide (z = x) : Nat)) := by
  have g1 := (Good.list (Good.map g l)).shaped (by omega)
  have g2 := (g x).shaped (by omega)
  unfold cntM cntD
  dsimp only
  rw [g1, g2, count_enc h]
  rfl
theorem idx_list {α : Type} [DecidableEq α] {k : Nat} {enc : α → D} (h : ∀ a b, PyData.eqv (enc a) (enc b) = decide (a = b)) (g : ∀ a, Good k (enc a)) (hk : k ≤ 63) (x : α) (l : List α) : idxM (.list (l.map enc)) [enc x] = (l.findIdx? fun z => decide (z = x)).map fun j => .int (j : Nat) := by
  have g1 := (Good.list (Good.map g l)).shaped (by omega)
  have g2 := (g x).shaped (by omega)
  unfold idxM idxD
  dsimp only
  rw [g1, g2, find_enc h]
  rfl
def cut {α : Type} (l : List α) (lo hi : Option Int) : List α := (l.drop (HT.sIx l.length 0 lo)).take (HT.sIx l.length l.length hi - HT.sIx l.length 0 lo)
theorem cut_map {α : Type} (enc : α → D) (l : List α) (lo hi : Option Int) : cutD (l.map enc) lo hi = (cut l lo hi).map enc := by
  unfold cutD cut
  rw [List.length_map, ← List.map_drop, ← List.map_take]
theorem sl_list' {α : Type} (enc : α → D) (l : List α) (lo hi : Option Int) : slD (.list (l.map enc)) lo hi = some (.list ((cut l lo hi).map enc)) := by
  show some (PyData.list (cutD (l.map enc) lo hi)) = _
  rw [cut_map]
theorem sl_tuple' {α : Type} (enc : α → D) (l : List α) (lo hi : Option Int) : slD (.tuple (l.map enc)) lo hi = some (.tuple ((cut l lo hi).map enc)) := by
  show some (PyData.tuple (cutD (l.map enc) lo hi)) = _
  rw [cut_map]
/-- sorting names -/
def leN (a b : Nat) : Bool := decide (a ≤ b)
def sortN (l : List Nat) : List Nat := isort leN l
theorem leD_nm (n : Nms) (i j : Nat) : leD (nmD n i) (nmD n j) = leN i j := by
  unfold leD nmD leN
  rw [PySem.W.dataLt_str, n.mono]
  by_cases h : i ≤ j
  · have : ¬ j < i := by omega
    simp [h, this]
  · have : j < i := by omega
    simp [h, this]
theorem ins_enc {α : Type} {enc : α → D} {le : α → α → Bool} (h : ∀ a b, leD (enc a) (enc b) = le a b) (x : α) : ∀ l : List α, ins leD (enc x) (l.map enc) = (ins le x l).map enc
  | [] => rfl
  | a :: l => by
    rw [List.map_cons, ins, ins, h, ins_enc h x l]
    split <;> simp
theorem isort_enc {α : Type} {enc : α → D} {le : α → α → Bool} (h : ∀ a b, leD (enc a) (enc b) = le a b) : ∀ l : List α, isort leD (l.map enc) = (isort le l).map enc
  | [] => rfl
  | a :: l => by rw [List.map_cons, isort, isort, isort_enc h l, ins_enc h]
theorem sort_enc {α : Type} {k : Nat} {enc : α → D} {le : α → α → Bool} (h : ∀ a b, leD (enc a) (enc b) = le a b) (g : ∀ a, Good k (enc a)) (hk : k ≤ 63) (ha : ∀ a b, PySem.W.alike (enc a) (enc b) = true) (ht : (∀ a, tup1 (enc a) = true) ∨ ∀ a, noTup (enc a) = true) (l : List α) :
    sortD (l.map enc) = some (.list ((isort le l).map enc)) := by
  have g1 := (Good.list (Good.map g l)).shaped (by omega)
  have g2 : alkB (l.map enc) = true := by
    unfold alkB
    rw [List.all_eq_true]
    intro d hd
    rw [List.all_eq_true]
    intro e he
    obtain ⟨a, _, rfl⟩ := List.mem_map.mp hd
    obtain ⟨b, _, rfl⟩ := List.mem_map.mp he
    exact ha a b
  have g3 : ((l.map enc).all tup1 || (l.map enc).all noTup) = true := by
    rw [Bool.or_eq_true, List.all_eq_true, List.all_eq_true]
    rcases ht with ht | ht
    · exact .inl fun d hd => by obtain ⟨a, _, rfl⟩ := List.mem_map.mp hd; exact ht a
    · exact .inr fun d hd => by obtain ⟨a, _, rfl⟩ := List.mem_map.mp hd; exact ht a
  unfold sortD
  rw [g1, g2, g3, isort_enc h]
  rfl
theorem sort_ns (n : Nms) (l : List Nat) : sortD (l.map (nmD n)) = some (.list ((sortN l).map (nmD n))) := sort_enc (leD_nm n) (good_nm n) (by decide) (fun _ _ => rfl) (.inr fun _ => rfl) l
/-- greatest and least of whole numbers -/
theorem mm_ints (x : Int) (l : List Int) : minmaxD true ((x :: l).map .int) = some (.int (l.foldl max x)) := by
  have g1 := (good_intsL (x :: l)).shaped (by decide)
  unfold intsL at g1
  have g2 : alkB ((x :: l).map PyData.int) = true := by
    unfold alkB
    simp [PySem.W.alike]
  have g3 : ((x :: l).map PyData.int).all (fun d => !isNon d) = true := by simp [isNon]
  rw [List.map_cons] at g1 g2 g3 ⊢
  unfold minmaxD
  dsimp only
  rw [g1, g2, g3, PySem.W.maxD_ints]
  rfl
theorem mn_ints (x : Int) (l : List Int) : minmaxD false ((x :: l).map .int) = some (.int (l.foldl min x)) := by
  have g1 := (good_intsL (x :: l)).shaped (by decide)
  unfold intsL at g1
  have g2 : alkB ((x :: l).map PyData.int) = true := by
    unfold alkB
    simp [PySem.W.alike]
  have g3 : ((x :: l).map PyData.int).all (fun d => !isNon d) = true := by simp [isNon]
  rw [List.map_cons] at g1 g2 g3 ⊢
  unfold minmaxD
  dsimp only
  rw [g1, g2, g3, PySem.W.minD_ints]
  rfl
theorem boolsOf_map : ∀ l : List Bool, boolsOf (l.map .bool) = some l
  | [] => rfl
  | b :: l => by rw [List.map_cons, boolsOf, boolsOf_map l]; rfl
theorem intsOf_map : ∀ l : List Int, intsOf (l.map .int) = some l
  | [] => rfl
  | b :: l => by rw [List.map_cons, intsOf, intsOf_map l]; rfl
end TD

set_option Elab.async false
set_option linter.all false
set_option maxRecDepth 100000
/-! TV2: runs of comprehensions and loops. -/
namespace TD
open PySem
theorem bnd_of {α β : Type} {m : M α} {f : α → M β} {e e' : En} {a : α} (h : m e = .ok a e') : bnd m f e = f a e' := by
  unfold bnd; rw [h]
theorem opt_of {α : Type} {o : Option α} {a : α} {e : En} (h : o = some a) : opt o e = .ok a e := by rw [h]; rfl
theorem compL_map {α : Type} {enc : α → D} {vs : List Nat} {asg : D → M Unit} {test : M Bool} {elt : M D} {env : En} (p : α → Bool) (f : α → D) (env1 : α → En) : ∀ (es : List α), (∀ a ∈ es, asg (enc a) env = .ok () (env1 a)) → (∀ a ∈ es, test (env1 a) = .ok (p a) (env1 a)) →
    (∀ a ∈ es, p a = true → elt (env1 a) = .ok (f a) (env1 a)) → (∀ a ∈ es, wipeE (env1 a) vs = env) → compL vs asg test elt (es.map enc) env = .ok ((es.filter p).map f) env
  | [], _, _, _, _ => rfl
  | a :: es, h1, h2, h3, h4 => by
    have ih := compL_map p f env1 es (fun b hb => h1 b (by simp [hb])) (fun b hb => h2 b (by simp [hb])) (fun b hb => h3 b (by simp [hb])) (fun b hb => h4 b (by simp [hb]))
    rw [List.map_cons, compL, bnd_of (h1 a (by simp)), bnd_of (h2 a (by simp))]
    cases hp : p a with
    | true =>
      rw [if_pos rfl, bnd_of (h3 a (by simp) hp)]
      have hw : wipeM vs (env1 a) = .ok () env := by unfold wipeM; rw [h4 a (by simp)]
      rw [bnd_of hw, bnd_of ih, List.filter_cons_of_pos hp, List.map_cons]
      rfl
    | false =>
      have hw : wipeM vs (env1 a) = .ok () env := by unfold wipeM; rw [h4 a (by simp)]
      rw [if_neg (by simp), bnd_of hw, ih, List.filter_cons_of_neg (by simp [hp])]
/-- a comprehension over typed items -/
theorem compM_map {α : Type} {enc : α → D} {es : List α} {p : α → Bool} {f : α → D} {env1 : α → En} {vs : List Nat} {I : M (List D)} {t : Tg} {T : M Bool} {E : M D} {env env' : En} (hI : I env = .ok (es.map enc) env') (hn : noneLent env' vs = true) (hb : backE env' (wipeE env' vs) vs = env')
    (h1 : ∀ a ∈ es, asgP 3 t (enc a) (wipeE env' vs) = .ok () (env1 a)) (h2 : ∀ a ∈ es, T (env1 a) = .ok (p a) (env1 a)) (h3 : ∀ a ∈ es, p a = true → E (env1 a) = .ok (f a) (env1 a)) (h4 : ∀ a ∈ es, wipeE (env1 a) vs = wipeE env' vs) :
    compM vs I t T E env = .ok (.list ((es.filter p).map f)) env' := by
  unfold compM
  rw [bnd_of hI]
  have h : inner vs (compL vs (asgP 3 t) T E (es.map enc)) env' = .ok ((es.filter p).map f) env' := by
    unfold inner
    rw [if_pos hn, compL_map p f env1 es h1 h2 h3 h4]
    dsimp only
    rw [hb]
  rw [bnd_of h]
  rfl
/-- a for without an early end -/
theorem forL_inv {α : Type} {enc : α → D} {asg : D → M Unit} {body : M Fl} (P : List α → En → Prop) : ∀ {es : List α} {e0 : En}, (∀ a r e, P (a :: r) e → ∃ e1 e2, asg (enc a) e = .ok () e1 ∧ body e1 = .ok .next e2 ∧ P r e2) → P es e0 → ∃ e, forL asg body (es.map enc) e0 = .ok .next e ∧ P [] e
  | [], e0, _, h => ⟨e0, rfl, h⟩
  | a :: es, e0, hs, h => by
    obtain ⟨e1, e2, h1, h2, h3⟩ := hs a es e0 h
    obtain ⟨e, q, r⟩ := forL_inv (es := es) P hs h3
    refine ⟨e, ?_, r⟩
    rw [List.map_cons, forL, bnd_of h1, bnd_of h2]
    exact q
theorem sIx_none (n d : Nat) : HT.sIx n d none = d := rfl
theorem sIx_nat (n d i : Nat) : HT.sIx n d (some (i : Int)) = min i n := by
  show (if ((i : Nat) : Int) < 0 then (((i : Nat) : Int) + (n : Int)).toNat else min ((i : Nat) : Int).toNat n) = _
  rw [if_neg (by omega)]
  rfl
theorem cut_to {α : Type} (l : List α) (i : Nat) : cut l none (some (i : Int)) = l.take i := by
  unfold cut
  rw [sIx_none, sIx_nat, List.drop_zero, Nat.sub_zero]
  by_cases h : i ≤ l.length
  · rw [Nat.min_eq_left h]
  · rw [Nat.min_eq_right (by omega), List.take_length, List.take_of_length_le (by omega)]
theorem cut_from {α : Type} (l : List α) (i : Nat) : cut l (some (i : Int)) none = l.drop i := by
  unfold cut
  rw [sIx_none, sIx_nat]
  by_cases h : i ≤ l.length
  · rw [Nat.min_eq_left h, List.take_of_length_le (by rw [List.length_drop]; omega)]
  · rw [Nat.min_eq_right (by omega), Nat.sub_self, List.take_zero, List.drop_of_length_le (by omega)]
end TD
namespace TD
open PySem
/-- a for that ends early with a value where an item fails -/
theorem forL_all {α : Type} {enc : α → D} {asg : D → M Unit} {body : M Fl} (p : α → Bool) (d : D) (P : En → Prop) : ∀ (es : List α) (e0 : En), (∀ a ∈ es, ∀ e, P e → ∃ e1 e2, asg (enc a) e = .ok () e1 ∧ body e1 = (if p a then .ok .next e2 else .ok (.ret d) e2) ∧ P e2) → P e0 →
    ∃ e, forL asg body (es.map enc) e0 = (if es.all p then .ok .next e else .ok (.ret d) e) ∧ P e
  | [], e0, _, h => ⟨e0, rfl, h⟩
  | a :: es, e0, hs, h => by
    obtain ⟨e1, e2, h1, h2, h3⟩ := hs a (by simp) e0 h
    cases hp : p a with
    | true =>
      rw [hp] at h2
      obtain ⟨e, q, r⟩ := forL_all p d P es e2 (fun b hb => hs b (by simp [hb])) h3
      refine ⟨e, ?_, r⟩
      have h2' : body e1 = .ok .next e2 := h2
      rw [List.map_cons, forL, bnd_of h1, bnd_of h2', List.all_cons, hp]
      exact q
    | false =>
      rw [hp] at h2
      have h2' : body e1 = .ok (.ret d) e2 := h2
      refine ⟨e2, ?_, h3⟩
      rw [List.map_cons, forL, bnd_of h1, bnd_of h2', List.all_cons, hp]
      rfl
end TD

set_option Elab.async false
set_option linter.all false
set_option maxRecDepth 100000
/-! TV3: rewriting rules for runs. -/
namespace TD
open PySem

def Res.andThen {α β : Type} (r : Res α) (f : α → M β) : Res β := match r with
  | .ok a e => f a e
  | .exc c e => .exc c e
  | .bad => .bad
def Res.noX {α : Type} (r : Res α) : Res α := match r with
  | .ok a e => .ok a e
  | .exc _ _ => .bad
  | .bad => .bad
def Res.keep (r : Res D) (e : En) : Res D := match r with
  | .ok d _ => .ok d e
  | .exc c _ => .exc c e
  | .bad => .bad
def Res.lentTo (r : Res D) (i : Nat) (env : En) : Res D := match r with
  | .ok d (.par cs' :: _) => .ok d (putL i cs' env)
  | .exc c (.par cs' :: _) => .exc c (putL i cs' env)
  | _ => .bad
theorem x_bnd {α β : Type} (m : M α) (f : α → M β) (e : En) : bnd m f e = (m e).andThen f := rfl
theorem x_then_ok {α β : Type} (a : α) (e : En) (f : α → M β) : (Res.ok a e).andThen f = f a e := rfl
theorem x_then_exc {α β : Type} (c : Str) (e : En) (f : α → M β) : (Res.exc c e : Res α).andThen f = .exc c e := rfl
theorem x_ret {α : Type} (a : α) (e : En) : ret a e = .ok a e := rfl
theorem x_opt {α : Type} (a : α) (e : En) : opt (some a) e = .ok a e := rfl
theorem x_noX {α : Type} (a : α) (e : En) : (Res.ok a e).noX = .ok a e := rfl
theorem x_noExc {α : Type} (m : M α) (e : En) : noExc m e = (m e).noX := rfl
theorem x_keep_ok (d : D) (e e' : En) : (Res.ok d e).keep e' = .ok d e' := rfl
theorem x_keep_exc (c : Str) (e e' : En) : (Res.exc c e).keep e' = .exc c e' := rfl
theorem x_lentTo (d : D) (cs : List D) (r : En) (i : Nat) (e : En) : (Res.ok d (.par cs :: r)).lentTo i e = .ok d (putL i cs e) := rfl
theorem x_seq0 {α : Type} (e : En) : seqM ([] : List (M α)) e = .ok [] e := rfl
theorem x_seqc {α : Type} (m : M α) (ms : List (M α)) (e : En) : seqM (m :: ms) e = (m e).andThen fun d e1 => (seqM ms e1).andThen fun ds => ret (d :: ds) := rfl
theorem x_opM (o : Operator) (A B : M D) (e : En) : opM o A B e = (A e).andThen fun x e1 => (B e1).andThen fun y => opt (opD o x y) := rfl
theorem x_cmpM (o : CmpOp) (A B : M D) (e : En) : cmpM o A B e = (A e).andThen fun x e1 => (B e1).andThen fun y e2 => (opt (cmpD o x y) e2).andThen fun c => ret (.bool c) := rfl
theorem x_cmpB (o : CmpOp) (A B : M D) (e : En) : cmpB o A B e = (A e).andThen fun x e1 => (B e1).andThen fun y => opt (cmpD o x y) := rfl
theorem x_cmp2M (o o' : CmpOp) (A B Z : M D) (e : En) : cmp2M o o' A B Z e = (A e).andThen fun x e1 => (B e1).andThen fun y e2 => (opt (cmpD o x y) e2).andThen fun k => if k then bnd Z fun z => bnd (opt (cmpD o' y z)) fun k' => ret (.bool k') else ret (.bool false) := rfl
theorem x_cmp2B (o o' : CmpOp) (A B Z : M D) (e : En) : cmp2B o o' A B Z e = (A e).andThen fun x e1 => (B e1).andThen fun y e2 => (opt (cmpD o x y) e2).andThen fun k => if k then bnd Z fun z => opt (cmpD o' y z) else ret false := rfl
theorem x_andB (A B : M Bool) (e : En) : andB A B e = (A e).andThen fun c => if c then B else ret false := rfl
theorem x_orB (A B : M Bool) (e : En) : orB A B e = (A e).andThen fun c => if c then ret true else B := rfl
theorem x_notB (A : M Bool) (e : En) : notB A e = (A e).andThen fun b => ret (!b) := rfl
def boolThen (x : D) (A B : M D) : M D := match x with
  | .bool c => if c then A else B
  | _ => bad
theorem x_boolThen (c : Bool) (A B : M D) : boolThen (.bool c) A B = if c then A else B := rfl
theorem x_andM (A B : M D) (e : En) : andM A B e = (A e).andThen fun x => boolThen x B (ret (.bool false)) := rfl
theorem x_orM (A B : M D) (e : En) : orM A B e = (A e).andThen fun x => boolThen x (ret (.bool true)) B := rfl
theorem x_negM (i : Int) : negM (.int i) = ret (.int (-i)) := rfl
theorem x_notM (i : Bool) : notM (.bool i) = ret (.bool (!i)) := rfl
theorem x_asBool (i : Bool) : asBool (.bool i) = ret i := rfl
theorem x_ifM {α : Type} (T : M Bool) (A B : M α) (e : En) : ifM T A B e = (T e).andThen fun c => if c then A else B := rfl
theorem x_tup0 (e : En) : tupM [] e = .ok (.tuple []) e := rfl
theorem x_tup1 (A : M D) (e : En) : tupM [A] e = (A e).andThen fun a => ret (.tuple [a]) := by
  show bnd (bnd A fun d => bnd (seqM []) fun ds => ret (d :: ds)) _ e = _
  unfold bnd Res.andThen
  cases A e <;> rfl
theorem x_tup2 (A B : M D) (e : En) : tupM [A, B] e = (A e).andThen fun a e1 => (B e1).andThen fun b => ret (.tuple [a, b]) := by
  show bnd (bnd A fun d => bnd (bnd B fun d => bnd (seqM []) fun ds => ret (d :: ds)) fun ds => ret (d :: ds)) _ e = _
  unfold bnd Res.andThen
  cases A e with
  | ok a e1 => dsimp only; cases B e1 <;> rfl
  | exc c e1 => rfl
  | bad => rfl
theorem x_tup3 (A B C : M D) (e : En) : tupM [A, B, C] e = (A e).andThen fun a e1 => (B e1).andThen fun b e2 => (C e2).andThen fun c => ret (.tuple [a, b, c]) := by
  show bnd (bnd A fun d => bnd (bnd B fun d => bnd (bnd C fun d => bnd (seqM []) fun ds => ret (d :: ds)) fun ds => ret (d :: ds)) fun ds => ret (d :: ds)) _ e = _
  unfold bnd Res.andThen
  cases A e with
  | ok a e1 =>
    dsimp only
    cases B e1 with
    | ok b e2 => dsimp only; cases C e2 <;> rfl
    | exc c e1 => rfl
    | bad => rfl
  | exc c e1 => rfl
  | bad => rfl
theorem x_lst0 (e : En) : lstM [] e = .ok (.list []) e := rfl
theorem x_lst1 (A : M D) (e : En) : lstM [A] e = (A e).andThen fun a => ret (.list [a]) := by
  show bnd (bnd A fun d => bnd (seqM []) fun ds => ret (d :: ds)) _ e = _
  unfold bnd Res.andThen
  cases A e <;> rfl
theorem x_bf1 (h : List D → Option D) (A : M D) (e : En) : bfM h [A] e = ((A e).noX).andThen fun a => opt (h [a]) := by
  show bnd (noExc (bnd A fun d => bnd (seqM []) fun ds => ret (d :: ds))) _ e = _
  unfold bnd noExc Res.andThen Res.noX
  dsimp only
  cases A e <;> rfl
theorem x_bf2 (h : List D → Option D) (A B : M D) (e : En) : bfM h [A, B] e = ((A e).noX).andThen fun a e1 => ((B e1).noX).andThen fun b => opt (h [a, b]) := by
  show bnd (noExc (bnd A fun d => bnd (bnd B fun d => bnd (seqM []) fun ds => ret (d :: ds)) fun ds => ret (d :: ds))) _ e = _
  unfold bnd noExc Res.andThen Res.noX
  dsimp only
  cases A e with
  | ok a e1 => dsimp only; cases B e1 <;> rfl
  | exc c e1 => rfl
  | bad => rfl
theorem x_mt1 (h : D → List D → Option D) (A B : M D) (e : En) : mtM h A [B] e = ((A e).noX).andThen fun a e1 => ((B e1).noX).andThen fun b => opt (h a [b]) := by
  show bnd (noExc A) (fun x => bnd (noExc (bnd B fun d => bnd (seqM []) fun ds => ret (d :: ds))) fun ds => opt (h x ds)) e = _
  unfold bnd noExc Res.andThen Res.noX
  dsimp only
  cases A e with
  | ok a e1 => dsimp only; cases B e1 <;> rfl
  | exc c e1 => rfl
  | bad => rfl
theorem x_slM (A : M D) (lo hi : M (Option Int)) (e : En) : slM A lo hi e = (A e).andThen fun x e1 => (lo e1).andThen fun l e2 => (hi e2).andThen fun h => opt (slD x l h) := rfl
def intThen (x : D) : M (Option Int) := match x with
  | .int i => ret (some i)
  | _ => bad
theorem x_intThen (i : Int) : intThen (.int i) = ret (some i) := rfl
theorem x_partM (A : M D) (e : En) : partM A e = (A e).andThen intThen := rfl
theorem x_rvM (A : M D) (e : En) : rvM A e = (A e).andThen fun x => opt (rvD x) := rfl
theorem x_ixM (A I : M D) (e : En) : ixM A I e = (A e).andThen fun x e1 => (I e1).andThen fun y => opt (ixD x y) := rfl
theorem x_isiM (T : Str) (A : M D) (e : En) : isiM T A e = ((A e).noX).andThen fun d e1 => (opt (isiD T d) e1).andThen fun b => ret (.bool b) := rfl
theorem x_call1 (call : Str → En → Res D) (g : Str) (A : M D) (e : En) : callV call g 1 [A] e = (A e).andThen fun a e1 => (call g [.val a]).keep e1 := by
  show bnd (bnd A fun d => bnd (seqM []) fun ds => ret (d :: ds)) _ e = _
  unfold bnd Res.andThen
  cases A e <;> rfl
theorem x_call2 (call : Str → En → Res D) (g : Str) (A B : M D) (e : En) : callV call g 2 [A, B] e = (A e).andThen fun a e1 => (B e1).andThen fun b e2 => (call g [.val a, .val b]).keep e2 := by
  show bnd (bnd A fun d => bnd (bnd B fun d => bnd (seqM []) fun ds => ret (d :: ds)) fun ds => ret (d :: ds)) _ e = _
  unfold bnd Res.andThen
  cases A e with
  | ok a e1 => dsimp only; cases B e1 <;> rfl
  | exc c e1 => rfl
  | bad => rfl
theorem x_call3 (call : Str → En → Res D) (g : Str) (A B C : M D) (e : En) : callV call g 3 [A, B, C] e = (A e).andThen fun a e1 => (B e1).andThen fun b e2 => (C e2).andThen fun c e3 => (call g [.val a, .val b, .val c]).keep e3 := by
  show bnd (bnd A fun d => bnd (bnd B fun d => bnd (bnd C fun d => bnd (seqM []) fun ds => ret (d :: ds)) fun ds => ret (d :: ds)) fun ds => ret (d :: ds)) _ e = _
  unfold bnd Res.andThen
  cases A e with
  | ok a e1 =>
    dsimp only
    cases B e1 with
    | ok b e2 => dsimp only; cases C e2 <;> rfl
    | exc c e1 => rfl
    | bad => rfl
  | exc c e1 => rfl
  | bad => rfl
theorem x_callP2 (call : Str → En → Res D) (g : Str) (j : Nat) (A : M D) (e : En) {cs : List D} (h : lent j e = some cs) : callP call g 2 j [A] e = (A e).andThen fun a e1 => match lent j e1 with
  | some cs => (call g [.par cs, .val a]).lentTo j e1
  | none => .bad := by
  unfold callP lentN
  rw [h]
  show bnd (bnd A fun d => bnd (seqM []) fun ds => ret (d :: ds)) _ e = _
  unfold bnd Res.andThen
  cases A e with
  | ok a e1 =>
    dsimp only [seqM, ret]
    cases lent j e1 with
    | none => rfl
    | some cs =>
      show (match call g [.par cs, .val a] with
        | .ok d (.par cs' :: _) => Res.ok d (putL j cs' e1)
        | .exc c (.par cs' :: _) => .exc c (putL j cs' e1)
        | _ => .bad) = _
      rfl
  | exc c e1 => rfl
  | bad => rfl
def flThen (x : Fl) (b : M Fl) : M Fl := match x with
  | .next => b
  | x => ret x
theorem x_fl_next (b : M Fl) : flThen .next b = b := rfl
theorem x_fl_ret (d : D) (b : M Fl) : flThen (.ret d) b = ret (.ret d) := rfl
theorem x_fl_brk (b : M Fl) : flThen .brk b = ret .brk := rfl
theorem x_blk0 (e : En) : blk [] e = .ok .next e := rfl
theorem x_blkc (a : M Fl) (r : List (M Fl)) (e : En) : blk (a :: r) e = (a e).andThen fun x => flThen x (blk r) := rfl
theorem x_exS (A : M D) (e : En) : exS A e = (A e).andThen fun _ => ret .next := rfl
theorem x_retS (A : M D) (e : En) : retS A e = (A e).andThen fun d => ret (.ret d) := rfl
theorem x_raiS (c : Str) (e : En) : raiS c e = .exc c e := rfl
theorem x_valR (A : M D) (e : En) : valR A e = (A e).andThen fun d => ret (.val d) := rfl
theorem x_own0 (e : En) : ownR [] e = .ok (.own []) e := rfl
theorem x_own1 (A : M D) (e : En) : ownR [A] e = (A e).andThen fun a => ret (.own [a]) := by
  show bnd (bnd A fun d => bnd (seqM []) fun ds => ret (d :: ds)) _ e = _
  unfold bnd Res.andThen
  cases A e <;> rfl
def cpyThen (d : D) : M Sl := match d with
  | .list ds => ret (.own ds)
  | .tuple ds => ret (.own ds)
  | _ => bad
theorem x_cpyT (ds : List D) : cpyThen (.tuple ds) = ret (.own ds) := rfl
theorem x_cpyL (ds : List D) : cpyThen (.list ds) = ret (.own ds) := rfl
theorem x_cpyR (A : M D) (e : En) : cpyR A e = (A e).andThen cpyThen := rfl
theorem x_setS (i : Nat) (R : M Sl) (e : En) : setS i R e = (R e).andThen fun v e1 => (wrSlot i v e1).andThen fun _ => ret .next := rfl
theorem x_setL (is : List Nat) (l : List (M Sl)) (e : En) : setL is l e = (seqM l e).andThen fun vs e1 => (wrL is vs e1).andThen fun _ => ret .next := rfl
theorem x_wrL0 (e : En) : wrL [] [] e = .ok () e := rfl
theorem x_wrLc (i : Nat) (is : List Nat) (v : Sl) (vs : List Sl) (e : En) : wrL (i :: is) (v :: vs) e = (wrL is vs e).andThen fun _ => wrSlot i v := rfl
theorem x_unpS (t : Tg) (A : M D) (e : En) : unpS t A e = (A e).andThen fun d e1 => (asgP 3 t d e1).andThen fun _ => ret .next := rfl
theorem x_ifD (T : M Bool) (A B : M Fl) (e : En) : ifD T A B e = (T e).andThen fun c => if c then A else B := rfl
theorem x_ifS (T : M Bool) (A B : M Fl) (e : En) : ifS T A B e = (borrow T e).andThen fun c => if c then A else B := rfl
theorem x_forS (t : Tg) (I : M (List D)) (B : M Fl) (e : En) : forS t I B e = (I e).andThen fun items => forL (asgP 3 t) B items := rfl
theorem x_seqI (A : M D) (e : En) : seqI A e = (A e).andThen fun x => opt (seqOf x) := rfl
theorem x_seqOfL (l : List D) : seqOf (.list l) = some l := rfl
theorem x_seqOfT (l : List D) : seqOf (.tuple l) = some l := rfl
def rng1Then (x : D) : M (List D) := match x with
  | .int n => if smallI n then ret (upTo 0 n.toNat) else bad
  | _ => bad
theorem x_rng1T (n : Int) : rng1Then (.int n) = if smallI n then ret (upTo 0 n.toNat) else bad := rfl
theorem x_rng1 (A : M D) (e : En) : rng1 A e = (A e).andThen rng1Then := rfl
def enuThen (x : D) : M (List D) := match x with
  | .list ds => ret (numbered ds)
  | .tuple ds => ret (numbered ds)
  | _ => bad
theorem x_enuL (l : List D) : enuThen (.list l) = ret (numbered l) := rfl
theorem x_enuT (l : List D) : enuThen (.tuple l) = ret (numbered l) := rfl
theorem x_enuI (A : M D) (e : En) : enuI A e = (A e).andThen enuThen := rfl
def zipThen (x y : D) : M (List D) := match x, y with
  | .list xs, .list ys => ret (pairUp xs ys)
  | .tuple xs, .tuple ys => ret (pairUp xs ys)
  | _, _ => bad
theorem x_zipL (l m : List D) : zipThen (.list l) (.list m) = ret (pairUp l m) := rfl
theorem x_zipT (l m : List D) : zipThen (.tuple l) (.tuple m) = ret (pairUp l m) := rfl
theorem x_zipI (A B : M D) (e : En) : zipI A B e = (A e).andThen fun x e1 => (B e1).andThen fun y => zipThen x y := rfl
theorem x_borrow {α : Type} {m : M α} {e e' e'' : En} {a : α} (h : m (e.map frz) = .ok a e') (hr : restore e e' = some e'') : borrow m e = .ok a e'' := by
  unfold borrow; rw [h]; dsimp only; rw [hr]
theorem x_rd0 {d : D} {r : En} : rdSlot 0 (.val d :: r) = .ok d (.val d :: r) := rfl
theorem x_rdo0 {ds : List D} {r : En} : rdSlot 0 (.own ds :: r) = .ok (.list ds) (.val (.list ds) :: r) := rfl
theorem x_wv0 {d : D} {v : Sl} {r : En} : wrSlot 0 v (.val d :: r) = .ok () (v :: r) := rfl
theorem x_wo0 {ds : List D} {v : Sl} {r : En} : wrSlot 0 v (.own ds :: r) = .ok () (v :: r) := rfl
theorem x_wn0 {v : Sl} {r : En} : wrSlot 0 v (.non :: r) = .ok () (v :: r) := rfl
theorem x_ixv0 {d : D} {r : En} (A I : M D) : ixN 0 A I (.val d :: r) = (A (.val d :: r)).andThen fun x e1 => (I e1).andThen fun y => opt (ixD x y) := rfl
theorem x_lnv0 {d : D} {r : En} (A : M D) : lenN 0 A (.val d :: r) = bfM lenD [A] (.val d :: r) := rfl
theorem x_lno0 {ds : List D} {r : En} (A : M D) : lenN 0 A (.own ds :: r) = .ok (.int ds.length) (.own ds :: r) := rfl
theorem x_mtv0 {d : D} {r : En} (O : Nat → M D) (R : M D) : mtN 0 O R (.val d :: r) = R (.val d :: r) := rfl
theorem x_mto0 {ds : List D} {r : En} (O : Nat → M D) (R : M D) : mtN 0 O R (.own ds :: r) = O 0 (.own ds :: r) := rfl
theorem x_lt0 {ds : List D} {r : En} : lent 0 (.own ds :: r) = some ds := rfl
theorem x_lp0 {ds : List D} {r : En} : lent 0 (.par ds :: r) = some ds := rfl
theorem x_pt0 {ds es : List D} {r : En} : putL 0 es (.own ds :: r) = .own es :: r := rfl
theorem x_pp0 {ds es : List D} {r : En} : putL 0 es (.par ds :: r) = .par es :: r := rfl
theorem x_cp0 {cs : List D} {r : En} (call : Str → En → Res D) (g : Str) (A : M D) : callP call g 2 0 [A] (.own cs :: r) = (A (.own cs :: r)).andThen fun a e1 => match lent 0 e1 with
  | some cs => (call g [.par cs, .val a]).lentTo 0 e1
  | none => .bad := x_callP2 call g 0 A _ rfl
theorem x_cq0 {cs : List D} {r : En} (call : Str → En → Res D) (g : Str) (A : M D) : callP call g 2 0 [A] (.par cs :: r) = (A (.par cs :: r)).andThen fun a e1 => match lent 0 e1 with
  | some cs => (call g [.par cs, .val a]).lentTo 0 e1
  | none => .bad := x_callP2 call g 0 A _ rfl
theorem x_rd1 {s0 : Sl} {d : D} {r : En} : rdSlot 1 (s0 :: .val d :: r) = .ok d (s0 :: .val d :: r) := rfl
theorem x_rdo1 {s0 : Sl} {ds : List D} {r : En} : rdSlot 1 (s0 :: .own ds :: r) = .ok (.list ds) (s0 :: .val (.list ds) :: r) := rfl
theorem x_wv1 {s0 : Sl} {d : D} {v : Sl} {r : En} : wrSlot 1 v (s0 :: .val d :: r) = .ok () (s0 :: v :: r) := rfl
theorem x_wo1 {s0 : Sl} {ds : List D} {v : Sl} {r : En} : wrSlot 1 v (s0 :: .own ds :: r) = .ok () (s0 :: v :: r) := rfl
theorem x_wn1 {s0 : Sl} {v : Sl} {r : En} : wrSlot 1 v (s0 :: .non :: r) = .ok () (s0 :: v :: r) := rfl
theorem x_ixv1 {s0 : Sl} {d : D} {r : En} (A I : M D) : ixN 1 A I (s0 :: .val d :: r) = (A (s0 :: .val d :: r)).andThen fun x e1 => (I e1).andThen fun y => opt (ixD x y) := rfl
theorem x_lnv1 {s0 : Sl} {d : D} {r : En} (A : M D) : lenN 1 A (s0 :: .val d :: r) = bfM lenD [A] (s0 :: .val d :: r) := rfl
theorem x_lno1 {s0 : Sl} {ds : List D} {r : En} (A : M D) : lenN 1 A (s0 :: .own ds :: r) = .ok (.int ds.length) (s0 :: .own ds :: r) := rfl
theorem x_mtv1 {s0 : Sl} {d : D} {r : En} (O : Nat → M D) (R : M D) : mtN 1 O R (s0 :: .val d :: r) = R (s0 :: .val d :: r) := rfl
theorem x_mto1 {s0 : Sl} {ds : List D} {r : En} (O : Nat → M D) (R : M D) : mtN 1 O R (s0 :: .own ds :: r) = O 1 (s0 :: .own ds :: r) := rfl
theorem x_lt1 {s0 : Sl} {ds : List D} {r : En} : lent 1 (s0 :: .own ds :: r) = some ds := rfl
theorem x_lp1 {s0 : Sl} {ds : List D} {r : En} : lent 1 (s0 :: .par ds :: r) = some ds := rfl
theorem x_pt1 {s0 : Sl} {ds es : List D} {r : En} : putL 1 es (s0 :: .own ds :: r) = s0 :: .own es :: r := rfl
theorem x_pp1 {s0 : Sl} {ds es : List D} {r : En} : putL 1 es (s0 :: .par ds :: r) = s0 :: .par es :: r := rfl
theorem x_cp1 {s0 : Sl} {cs : List D} {r : En} (call : Str → En → Res D) (g : Str) (A : M D) : callP call g 2 1 [A] (s0 :: .own cs :: r) = (A (s0 :: .own cs :: r)).andThen fun a e1 => match lent 1 e1 with
  | some cs => (call g [.par cs, .val a]).lentTo 1 e1
  | none => .bad := x_callP2 call g 1 A _ rfl
theorem x_cq1 {s0 : Sl} {cs : List D} {r : En} (call : Str → En → Res D) (g : Str) (A : M D) : callP call g 2 1 [A] (s0 :: .par cs :: r) = (A (s0 :: .par cs :: r)).andThen fun a e1 => match lent 1 e1 with
  | some cs => (call g [.par cs, .val a]).lentTo 1 e1
  | none => .bad := x_callP2 call g 1 A _ rfl
theorem x_rd2 {s0 s1 : Sl} {d : D} {r : En} : rdSlot 2 (s0 :: s1 :: .val d :: r) = .ok d (s0 :: s1 :: .val d :: r) := rfl
theorem x_rdo2 {s0 s1 : Sl} {ds : List D} {r : En} : rdSlot 2 (s0 :: s1 :: .own ds :: r) = .ok (.list ds) (s0 :: s1 :: .val (.list ds) :: r) := rfl
theorem x_wv2 {s0 s1 : Sl} {d : D} {v : Sl} {r : En} : wrSlot 2 v (s0 :: s1 :: .val d :: r) = .ok () (s0 :: s1 :: v :: r) := rfl
theorem x_wo2 {s0 s1 : Sl} {ds : List D} {v : Sl} {r : En} : wrSlot 2 v (s0 :: s1 :: .own ds :: r) = .ok () (s0 :: s1 :: v :: r) := rfl
theorem x_wn2 {s0 s1 : Sl} {v : Sl} {r : En} : wrSlot 2 v (s0 :: s1 :: .non :: r) = .ok () (s0 :: s1 :: v :: r) := rfl
theorem x_ixv2 {s0 s1 : Sl} {d : D} {r : En} (A I : M D) : ixN 2 A I (s0 :: s1 :: .val d :: r) = (A (s0 :: s1 :: .val d :: r)).andThen fun x e1 => (I e1).andThen fun y => opt (ixD x y) := rfl
theorem x_lnv2 {s0 s1 : Sl} {d : D} {r : En} (A : M D) : lenN 2 A (s0 :: s1 :: .val d :: r) = bfM lenD [A] (s0 :: s1 :: .val d :: r) := rfl
theorem x_lno2 {s0 s1 : Sl} {ds : List D} {r : En} (A : M D) : lenN 2 A (s0 :: s1 :: .own ds :: r) = .ok (.int ds.length) (s0 :: s1 :: .own ds :: r) := rfl
theorem x_mtv2 {s0 s1 : Sl} {d : D} {r : En} (O : Nat → M D) (R : M D) : mtN 2 O R (s0 :: s1 :: .val d :: r) = R (s0 :: s1 :: .val d :: r) := rfl
theorem x_mto2 {s0 s1 : Sl} {ds : List D} {r : En} (O : Nat → M D) (R : M D) : mtN 2 O R (s0 :: s1 :: .own ds :: r) = O 2 (s0 :: s1 :: .own ds :: r) := rfl
theorem x_lt2 {s0 s1 : Sl} {ds : List D} {r : En} : lent 2 (s0 :: s1 :: .own ds :: r) = some ds := rfl
theorem x_lp2 {s0 s1 : Sl} {ds : List D} {r : En} : lent 2 (s0 :: s1 :: .par ds :: r) = some ds := rfl
theorem x_pt2 {s0 s1 : Sl} {ds es : List D} {r : En} : putL 2 es (s0 :: s1 :: .own ds :: r) = s0 :: s1 :: .own es :: r := rfl
theorem x_pp2 {s0 s1 : Sl} {ds es : List D} {r : En} : putL 2 es (s0 :: s1 :: .par ds :: r) = s0 :: s1 :: .par es :: r := rfl
theorem x_cp2 {s0 s1 : Sl} {cs : List D} {r : En} (call : Str → En → Res D) (g : Str) (A : M D) : callP call g 2 2 [A] (s0 :: s1 :: .own cs :: r) = (A (s0 :: s1 :: .own cs :: r)).andThen fun a e1 => match lent 2 e1 with
  | some cs => (call g [.par cs, .val a]).lentTo 2 e1
  | none => .bad := x_callP2 call g 2 A _ rfl
theorem x_cq2 {s0 s1 : Sl} {cs : List D} {r : En} (call : Str → En → Res D) (g : Str) (A : M D) : callP call g 2 2 [A] (s0 :: s1 :: .par cs :: r) = (A (s0 :: s1 :: .par cs :: r)).andThen fun a e1 => match lent 2 e1 with
  | some cs => (call g [.par cs, .val a]).lentTo 2 e1
  | none => .bad := x_callP2 call g 2 A _ rfl
theorem x_rd3 {s0 s1 s2 : Sl} {d : D} {r : En} : rdSlot 3 (s0 :: s1 :: s2 :: .val d :: r) = .ok d (s0 :: s1 :: s2 :: .val d :: r) := rfl
theorem x_rdo3 {s0 s1 s2 : Sl} {ds : List D} {r : En} : rdSlot 3 (s0 :: s1 :: s2 :: .own ds :: r) = .ok (.list ds) (s0 :: s1 :: s2 :: .val (.list ds) :: r) := rfl
theorem x_wv3 {s0 s1 s2 : Sl} {d : D} {v : Sl} {r : En} : wrSlot 3 v (s0 :: s1 :: s2 :: .val d :: r) = .ok () (s0 :: s1 :: s2 :: v :: r) := rfl
theorem x_wo3 {s0 s1 s2 : Sl} {ds : List D} {v : Sl} {r : En} : wrSlot 3 v (s0 :: s1 :: s2 :: .own ds :: r) = .ok () (s0 :: s1 :: s2 :: v :: r) := rfl
theorem x_wn3 {s0 s1 s2 : Sl} {v : Sl} {r : En} : wrSlot 3 v (s0 :: s1 :: s2 :: .non :: r) = .ok () (s0 :: s1 :: s2 :: v :: r) := rfl
theorem x_ixv3 {s0 s1 s2 : Sl} {d : D} {r : En} (A I : M D) : ixN 3 A I (s0 :: s1 :: s2 :: .val d :: r) = (A (s0 :: s1 :: s2 :: .val d :: r)).andThen fun x e1 => (I e1).andThen fun y => opt (ixD x y) := rfl
theorem x_lnv3 {s0 s1 s2 : Sl} {d : D} {r : En} (A : M D) : lenN 3 A (s0 :: s1 :: s2 :: .val d :: r) = bfM lenD [A] (s0 :: s1 :: s2 :: .val d :: r) := rfl
theorem x_lno3 {s0 s1 s2 : Sl} {ds : List D} {r : En} (A : M D) : lenN 3 A (s0 :: s1 :: s2 :: .own ds :: r) = .ok (.int ds.length) (s0 :: s1 :: s2 :: .own ds :: r) := rfl
theorem x_mtv3 {s0 s1 s2 : Sl} {d : D} {r : En} (O : Nat → M D) (R : M D) : mtN 3 O R (s0 :: s1 :: s2 :: .val d :: r) = R (s0 :: s1 :: s2 :: .val d :: r) := rfl
theorem x_mto3 {s0 s1 s2 : Sl} {ds : List D} {r : En} (O : Nat → M D) (R : M D) : mtN 3 O R (s0 :: s1 :: s2 :: .own ds :: r) = O 3 (s0 :: s1 :: s2 :: .own ds :: r) := rfl
theorem x_lt3 {s0 s1 s2 : Sl} {ds : List D} {r : En} : lent 3 (s0 :: s1 :: s2 :: .own ds :: r) = some ds := rfl
theorem x_lp3 {s0 s1 s2 : Sl} {ds : List D} {r : En} : lent 3 (s0 :: s1 :: s2 :: .par ds :: r) = some ds := rfl
theorem x_pt3 {s0 s1 s2 : Sl} {ds es : List D} {r : En} : putL 3 es (s0 :: s1 :: s2 :: .own ds :: r) = s0 :: s1 :: s2 :: .own es :: r := rfl
theorem x_pp3 {s0 s1 s2 : Sl} {ds es : List D} {r : En} : putL 3 es (s0 :: s1 :: s2 :: .par ds :: r) = s0 :: s1 :: s2 :: .par es :: r := rfl
theorem x_cp3 {s0 s1 s2 : Sl} {cs : List D} {r : En} (call : Str → En → Res D) (g : Str) (A : M D) : callP call g 2 3 [A] (s0 :: s1 :: s2 :: .own cs :: r) = (A (s0 :: s1 :: s2 :: .own cs :: r)).andThen fun a e1 => match lent 3 e1 with
  | some cs => (call g [.par cs, .val a]).lentTo 3 e1
  | none => .bad := x_callP2 call g 3 A _ rfl
theorem x_cq3 {s0 s1 s2 : Sl} {cs : List D} {r : En} (call : Str → En → Res D) (g : Str) (A : M D) : callP call g 2 3 [A] (s0 :: s1 :: s2 :: .par cs :: r) = (A (s0 :: s1 :: s2 :: .par cs :: r)).andThen fun a e1 => match lent 3 e1 with
  | some cs => (call g [.par cs, .val a]).lentTo 3 e1
  | none => .bad := x_callP2 call g 3 A _ rfl
theorem x_rd4 {s0 s1 s2 s3 : Sl} {d : D} {r : En} : rdSlot 4 (s0 :: s1 :: s2 :: s3 :: .val d :: r) = .ok d (s0 :: s1 :: s2 :: s3 :: .val d :: r) := rfl
theorem x_rdo4 {s0 s1 s2 s3 : Sl} {ds : List D} {r : En} : rdSlot 4 (s0 :: s1 :: s2 :: s3 :: .own ds :: r) = .ok (.list ds) (s0 :: s1 :: s2 :: s3 :: .val (.list ds) :: r) := rfl
theorem x_wv4 {s0 s1 s2 s3 : Sl} {d : D} {v : Sl} {r : En} : wrSlot 4 v (s0 :: s1 :: s2 :: s3 :: .val d :: r) = .ok () (s0 :: s1 :: s2 :: s3 :: v :: r) := rfl
theorem x_wo4 {s0 s1 s2 s3 : Sl} {ds : List D} {v : Sl} {r : En} : wrSlot 4 v (s0 :: s1 :: s2 :: s3 :: .own ds :: r) = .ok () (s0 :: s1 :: s2 :: s3 :: v :: r) := rfl
theorem x_wn4 {s0 s1 s2 s3 : Sl} {v : Sl} {r : En} : wrSlot 4 v (s0 :: s1 :: s2 :: s3 :: .non :: r) = .ok () (s0 :: s1 :: s2 :: s3 :: v :: r) := rfl
theorem x_ixv4 {s0 s1 s2 s3 : Sl} {d : D} {r : En} (A I : M D) : ixN 4 A I (s0 :: s1 :: s2 :: s3 :: .val d :: r) = (A (s0 :: s1 :: s2 :: s3 :: .val d :: r)).andThen fun x e1 => (I e1).andThen fun y => opt (ixD x y) := rfl
theorem x_lnv4 {s0 s1 s2 s3 : Sl} {d : D} {r : En} (A : M D) : lenN 4 A (s0 :: s1 :: s2 :: s3 :: .val d :: r) = bfM lenD [A] (s0 :: s1 :: s2 :: s3 :: .val d :: r) := rfl
theorem x_lno4 {s0 s1 s2 s3 : Sl} {ds : List D} {r : En} (A : M D) : lenN 4 A (s0 :: s1 :: s2 :: s3 :: .own ds :: r) = .ok (.int ds.length) (s0 :: s1 :: s2 :: s3 :: .own ds :: r) := rfl
theorem x_mtv4 {s0 s1 s2 s3 : Sl} {d : D} {r : En} (O : Nat → M D) (R : M D) : mtN 4 O R (s0 :: s1 :: s2 :: s3 :: .val d :: r) = R (s0 :: s1 :: s2 :: s3 :: .val d :: r) := rfl
theorem x_mto4 {s0 s1 s2 s3 : Sl} {ds : List D} {r : En} (O : Nat → M D) (R : M D) : mtN 4 O R (s0 :: s1 :: s2 :: s3 :: .own ds :: r) = O 4 (s0 :: s1 :: s2 :: s3 :: .own ds :: r) := rfl
theorem x_lt4 {s0 s1 s2 s3 : Sl} {ds : List D} {r : En} : lent 4 (s0 :: s1 :: s2 :: s3 :: .own ds :: r) = some ds := rfl
theorem x_lp4 {s0 s1 s2 s3 : Sl} {ds : List D} {r : En} : lent 4 (s0 :: s1 :: s2 :: s3 :: .par ds :: r) = some ds := rfl
theorem x_pt4 {s0 s1 s2 s3 : Sl} {ds es : List D} {r : En} : putL 4 es (s0 :: s1 :: s2 :: s3 :: .own ds :: r) = s0 :: s1 :: s2 :: s3 :: .own es :: r := rfl
theorem x_pp4 {s0 s1 s2 s3 : Sl} {ds es : List D} {r : En} : putL 4 es (s0 :: s1 :: s2 :: s3 :: .par ds :: r) = s0 :: s1 :: s2 :: s3 :: .par es :: r := rfl
theorem x_cp4 {s0 s1 s2 s3 : Sl} {cs : List D} {r : En} (call : Str → En → Res D) (g : Str) (A : M D) : callP call g 2 4 [A] (s0 :: s1 :: s2 :: s3 :: .own cs :: r) = (A (s0 :: s1 :: s2 :: s3 :: .own cs :: r)).andThen fun a e1 => match lent 4 e1 with
  | some cs => (call g [.par cs, .val a]).lentTo 4 e1
  | none => .bad := x_callP2 call g 4 A _ rfl
theorem x_cq4 {s0 s1 s2 s3 : Sl} {cs : List D} {r : En} (call : Str → En → Res D) (g : Str) (A : M D) : callP call g 2 4 [A] (s0 :: s1 :: s2 :: s3 :: .par cs :: r) = (A (s0 :: s1 :: s2 :: s3 :: .par cs :: r)).andThen fun a e1 => match lent 4 e1 with
  | some cs => (call g [.par cs, .val a]).lentTo 4 e1
  | none => .bad := x_callP2 call g 4 A _ rfl
theorem x_rd5 {s0 s1 s2 s3 s4 : Sl} {d : D} {r : En} : rdSlot 5 (s0 :: s1 :: s2 :: s3 :: s4 :: .val d :: r) = .ok d (s0 :: s1 :: s2 :: s3 :: s4 :: .val d :: r) := rfl
theorem x_rdo5 {s0 s1 s2 s3 s4 : Sl} {ds : List D} {r : En} : rdSlot 5 (s0 :: s1 :: s2 :: s3 :: s4 :: .own ds :: r) = .ok (.list ds) (s0 :: s1 :: s2 :: s3 :: s4 :: .val (.list ds) :: r) := rfl
theorem x_wv5 {s0 s1 s2 s3 s4 : Sl} {d : D} {v : Sl} {r : En} : wrSlot 5 v (s0 :: s1 :: s2 :: s3 :: s4 :: .val d :: r) = .ok () (s0 :: s1 :: s2 :: s3 :: s4 :: v :: r) := rfl
theorem x_wo5 {s0 s1 s2 s3 s4 : Sl} {ds : List D} {v : Sl} {r : En} : wrSlot 5 v (s0 :: s1 :: s2 :: s3 :: s4 :: .own ds :: r) = .ok () (s0 :: s1 :: s2 :: s3 :: s4 :: v :: r) := rfl
theorem x_wn5 {s0 s1 s2 s3 s4 : Sl} {v : Sl} {r : En} : wrSlot 5 v (s0 :: s1 :: s2 :: s3 :: s4 :: .non :: r) = .ok () (s0 :: s1 :: s2 :: s3 :: s4 :: v :: r) := rfl
theorem x_ixv5 {s0 s1 s2 s3 s4 : Sl} {d : D} {r : En} (A I : M D) : ixN 5 A I (s0 :: s1 :: s2 :: s3 :: s4 :: .val d :: r) = (A (s0 :: s1 :: s2 :: s3 :: s4 :: .val d :: r)).andThen fun x e1 => (I e1).andThen fun y => opt (ixD x y) := rfl
theorem x_lnv5 {s0 s1 s2 s3 s4 : Sl} {d : D} {r : En} (A : M D) : lenN 5 A (s0 :: s1 :: s2 :: s3 :: s4 :: .val d :: r) = bfM lenD [A] (s0 :: s1 :: s2 :: s3 :: s4 :: .val d :: r) := rfl
theorem x_lno5 {s0 s1 s2 s3 s4 : Sl} {ds : List D} {r : En} (A : M D) : lenN 5 A (s0 :: s1 :: s2 :: s3 :: s4 :: .own ds :: r) = .ok (.int ds.length) (s0 :: s1 :: s2 :: s3 :: s4 :: .own ds :: r) := rfl
theorem x_mtv5 {s0 s1 s2 s3 s4 : Sl} {d : D} {r : En} (O : Nat → M D) (R : M D) : mtN 5 O R (s0 :: s1 :: s2 :: s3 :: s4 :: .val d :: r) = R (s0 :: s1 :: s2 :: s3 :: s4 :: .val d :: r) := rfl
theorem x_mto5 {s0 s1 s2 s3 s4 : Sl} {ds : List D} {r : En} (O : Nat → M D) (R : M D) : mtN 5 O R (s0 :: s1 :: s2 :: s3 :: s4 :: .own ds :: r) = O 5 (s0 :: s1 :: s2 :: s3 :: s4 :: .own ds :: r) := rfl
theorem x_lt5 {s0 s1 s2 s3 s4 : Sl} {ds : List D} {r : En} : lent 5 (s0 :: s1 :: s2 :: s3 :: s4 :: .own ds :: r) = some ds := rfl
theorem x_lp5 {s0 s1 s2 s3 s4 : Sl} {ds : List D} {r : En} : lent 5 (s0 :: s1 :: s2 :: s3 :: s4 :: .par ds :: r) = some ds := rfl
theorem x_pt5 {s0 s1 s2 s3 s4 : Sl} {ds es : List D} {r : En} : putL 5 es (s0 :: s1 :: s2 :: s3 :: s4 :: .own ds :: r) = s0 :: s1 :: s2 :: s3 :: s4 :: .own es :: r := rfl
theorem x_pp5 {s0 s1 s2 s3 s4 : Sl} {ds es : List D} {r : En} : putL 5 es (s0 :: s1 :: s2 :: s3 :: s4 :: .par ds :: r) = s0 :: s1 :: s2 :: s3 :: s4 :: .par es :: r := rfl
theorem x_cp5 {s0 s1 s2 s3 s4 : Sl} {cs : List D} {r : En} (call : Str → En → Res D) (g : Str) (A : M D) : callP call g 2 5 [A] (s0 :: s1 :: s2 :: s3 :: s4 :: .own cs :: r) = (A (s0 :: s1 :: s2 :: s3 :: s4 :: .own cs :: r)).andThen fun a e1 => match lent 5 e1 with
  | some cs => (call g [.par cs, .val a]).lentTo 5 e1
  | none => .bad := x_callP2 call g 5 A _ rfl
theorem x_cq5 {s0 s1 s2 s3 s4 : Sl} {cs : List D} {r : En} (call : Str → En → Res D) (g : Str) (A : M D) : callP call g 2 5 [A] (s0 :: s1 :: s2 :: s3 :: s4 :: .par cs :: r) = (A (s0 :: s1 :: s2 :: s3 :: s4 :: .par cs :: r)).andThen fun a e1 => match lent 5 e1 with
  | some cs => (call g [.par cs, .val a]).lentTo 5 e1
  | none => .bad := x_callP2 call g 5 A _ rfl
theorem x_rd6 {s0 s1 s2 s3 s4 s5 : Sl} {d : D} {r : En} : rdSlot 6 (s0 :: s1 :: s2 :: s3 :: s4 :: s5 :: .val d :: r) = .ok d (s0 :: s1 :: s2 :: s3 :: s4 :: s5 :: .val d :: r) := rfl
theorem x_rdo6 {s0 s1 s2 s3 s4 s5 : Sl} {ds : List D} {r : En} : rdSlot 6 (s0 :: s1 :: s2 :: s3 :: s4 :: s5 :: .own ds :: r) = .ok (.list ds) (s0 :: s1 :: s2 :: s3 :: s4 :: s5 :: .val (.list ds) :: r) := rfl
theorem x_wv6 {s0 s1 s2 s3 s4 s5 : Sl} {d : D} {v : Sl} {r : En} : wrSlot 6 v (s0 :: s1 :: s2 :: s3 :: s4 :: s5 :: .val d :: r) = .ok () (s0 :: s1 :: s2 :: s3 :: s4 :: s5 :: v :: r) := rfl
theorem x_wo6 {s0 s1 s2 s3 s4 s5 : Sl} {ds : List D} {v : Sl} {r : En} : wrSlot 6 v (s0 :: s1 :: s2 :: s3 :: s4 :: s5 :: .own ds :: r) = .ok () (s0 :: s1 :: s2 :: s3 :: s4 :: s5 :: v :: r) := rfl
theorem x_wn6 {s0 s1 s2 s3 s4 s5 : Sl} {v : Sl} {r : En} : wrSlot 6 v (s0 :: s1 :: s2 :: s3 :: s4 :: s5 :: .non :: r) = .ok () (s0 :: s1 :: s2 :: s3 :: s4 :: s5 :: v :: r) := rfl
theorem x_ixv6 {s0 s1 s2 s3 s4 s5 : Sl} {d : D} {r : En} (A I : M D) : ixN 6 A I (s0 :: s1 :: s2 :: s3 :: s4 :: s5 :: .val d :: r) = (A (s0 :: s1 :: s2 :: s3 :: s4 :: s5 :: .val d :: r)).andThen fun x e1 => (I e1).andThen fun y => opt (ixD x y) := rfl
theorem x_lnv6 {s0 s1 s2 s3 s4 s5 : Sl} {d : D} {r : En} (A : M D) : lenN 6 A (s0 :: s1 :: s2 :: s3 :: s4 :: s5 :: .val d :: r) = bfM lenD [A] (s0 :: s1 :: s2 :: s3 :: s4 :: s5 :: .val d :: r) := rfl
theorem x_lno6 {s0 s1 s2 s3 s4 s5 : Sl} {ds : List D} {r : En} (A : M D) : lenN 6 A (s0 :: s1 :: s2 :: s3 :: s4 :: s5 :: .own ds :: r) = .ok (.int ds.length) (s0 :: s1 :: s2 :: s3 :: s4 :: s5 :: .own ds :: r) := rfl
theorem x_mtv6 {s0 s1 s2 s3 s4 s5 : Sl} {d : D} {r : En} (O : Nat → M D) (R : M D) : mtN 6 O R (s0 :: s1 :: s2 :: s3 :: s4 :: s5 :: .val d :: r) = R (s0 :: s1 :: s2 :: s3 :: s4 :: s5 :: .val d :: r) := rfl
theorem x_mto6 {s0 s1 s2 s3 s4 s5 : Sl} {ds : List D} {r : En} (O : Nat → M D) (R : M D) : mtN 6 O R (s0 :: s1 :: s2 :: s3 :: s4 :: s5 :: .own ds :: r) = O 6 (s0 :: s1 :: s2 :: s3 :: s4 :: s5 :: .own ds :: r) := rfl
theorem x_lt6 {s0 s1 s2 s3 s4 s5 : Sl} {ds : List D} {r : En} : lent 6 (s0 :: s1 :: s2 :: s3 :: s4 :: s5 :: .own ds :: r) = some ds := rfl
theorem x_lp6 {s0 s1 s2 s3 s4 s5 : Sl} {ds : List D} {r : En} : lent 6 (s0 :: s1 :: s2 :: s3 :: s4 :: s5 :: .par ds :: r) = some ds := rfl
theorem x_pt6 {s0 s1 s2 s3 s4 s5 : Sl} {ds es : List D} {r : En} : putL 6 es (s0 :: s1 :: s2 :: s3 :: s4 :: s5 :: .own ds :: r) = s0 :: s1 :: s2 :: s3 :: s4 :: s5 :: .own es :: r := rfl
theorem x_pp6 {s0 s1 s2 s3 s4 s5 : Sl} {ds es : List D} {r : En} : putL 6 es (s0 :: s1 :: s2 :: s3 :: s4 :: s5 :: .par ds :: r) = s0 :: s1 :: s2 :: s3 :: s4 :: s5 :: .par es :: r := rfl
theorem x_cp6 {s0 s1 s2 s3 s4 s5 : Sl} {cs : List D} {r : En} (call : Str → En → Res D) (g : Str) (A : M D) : callP call g 2 6 [A] (s0 :: s1 :: s2 :: s3 :: s4 :: s5 :: .own cs :: r) = (A (s0 :: s1 :: s2 :: s3 :: s4 :: s5 :: .own cs :: r)).andThen fun a e1 => match lent 6 e1 with
  | some cs => (call g [.par cs, .val a]).lentTo 6 e1
  | none => .bad := x_callP2 call g 6 A _ rfl
theorem x_cq6 {s0 s1 s2 s3 s4 s5 : Sl} {cs : List D} {r : En} (call : Str → En → Res D) (g : Str) (A : M D) : callP call g 2 6 [A] (s0 :: s1 :: s2 :: s3 :: s4 :: s5 :: .par cs :: r) = (A (s0 :: s1 :: s2 :: s3 :: s4 :: s5 :: .par cs :: r)).andThen fun a e1 => match lent 6 e1 with
  | some cs => (call g [.par cs, .val a]).lentTo 6 e1
  | none => .bad := x_callP2 call g 6 A _ rfl
theorem x_rd7 {s0 s1 s2 s3 s4 s5 s6 : Sl} {d : D} {r : En} : rdSlot 7 (s0 :: s1 :: s2 :: s3 :: s4 :: s5 :: s6 :: .val d :: r) = .ok d (s0 :: s1 :: s2 :: s3 :: s4 :: s5 :: s6 :: .val d :: r) := rfl
theorem x_rdo7 {s0 s1 s2 s3 s4 s5 s6 : Sl} {ds : List D} {r : En} : rdSlot 7 (s0 :: s1 :: s2 :: s3 :: s4 :: s5 :: s6 :: .own ds :: r) = .ok (.list ds) (s0 :: s1 :: s2 :: s3 :: s4 :: s5 :: s6 :: .val (.list ds) :: r) := rfl
theorem x_wv7 {s0 s1 s2 s3 s4 s5 s6 : Sl} {d : D} {v : Sl} {r : En} : wrSlot 7 v (s0 :: s1 :: s2 :: s3 :: s4 :: s5 :: s6 :: .val d :: r) = .ok () (s0 :: s1 :: s2 :: s3 :: s4 :: s5 :: s6 :: v :: r) := rfl
theorem x_wo7 {s0 s1 s2 s3 s4 s5 s6 : Sl} {ds : List D} {v : Sl} {r : En} : wrSlot 7 v (s0 :: s1 :: s2 :: s3 :: s4 :: s5 :: s6 :: .own ds :: r) = .ok () (s0 :: s1 :: s2 :: s3 :: s4 :: s5 :: s6 :: v :: r) := rfl
theorem x_wn7 {s0 s1 s2 s3 s4 s5 s6 : Sl} {v : Sl} {r : En} : wrSlot 7 v (s0 :: s1 :: s2 :: s3 :: s4 :: s5 :: s6 :: .non :: r) = .ok () (s0 :: s1 :: s2 :: s3 :: s4 :: s5 :: s6 :: v :: r) := rfl
theorem x_ixv7 {s0 s1 s2 s3 s4 s5 s6 : Sl} {d : D} {r : En} (A I : M D) : ixN 7 A I (s0 :: s1 :: s2 :: s3 :: s4 :: s5 :: s6 :: .val d :: r) = (A (s0 :: s1 :: s2 :: s3 :: s4 :: s5 :: s6 :: .val d :: r)).andThen fun x e1 => (I e1).andThen fun y => opt (ixD x y) := rfl
theorem x_lnv7 {s0 s1 s2 s3 s4 s5 s6 : Sl} {d : D} {r : En} (A : M D) : lenN 7 A (s0 :: s1 :: s2 :: s3 :: s4 :: s5 :: s6 :: .val d :: r) = bfM lenD [A] (s0 :: s1 :: s2 :: s3 :: s4 :: s5 :: s6 :: .val d :: r) := rfl
theorem x_lno7 {s0 s1 s2 s3 s4 s5 s6 : Sl} {ds : List D} {r : En} (A : M D) : lenN 7 A (s0 :: s1 :: s2 :: s3 :: s4 :: s5 :: s6 :: .own ds :: r) = .ok (.int ds.length) (s0 :: s1 :: s2 :: s3 :: s4 :: s5 :: s6 :: .own ds :: r) := rfl
theorem x_mtv7 {s0 s1 s2 s3 s4 s5 s6 : Sl} {d : D} {r : En} (O : Nat → M D) (R : M D) : mtN 7 O R (s0 :: s1 :: s2 :: s3 :: s4 :: s5 :: s6 :: .val d :: r) = R (s0 :: s1 :: s2 :: s3 :: s4 :: s5 :: s6 :: .val d :: r) := rfl
theorem x_mto7 {s0 s1 s2 s3 s4 s5 s6 : Sl} {ds : List D} {r : En} (O : Nat → M D) (R : M D) : mtN 7 O R (s0 :: s1 :: s2 :: s3 :: s4 :: s5 :: s6 :: .own ds :: r) = O 7 (s0 :: s1 :: s2 :: s3 :: s4 :: s5 :: s6 :: .own ds :: r) := rfl
theorem x_lt7 {s0 s1 s2 s3 s4 s5 s6 : Sl} {ds : List D} {r : En} : lent 7 (s0 :: s1 :: s2 :: s3 :: s4 :: s5 :: s6 :: .own ds :: r) = some ds := rfl
theorem x_lp7 {s0 s1 s2 s3 s4 s5 s6 : Sl} {ds : List D} {r : En} : lent 7 (s0 :: s1 :: s2 :: s3 :: s4 :: s5 :: s6 :: .par ds :: r) = some ds := rfl
theorem x_pt7 {s0 s1 s2 s3 s4 s5 s6 : Sl} {ds es : List D} {r : En} : putL 7 es (s0 :: s1 :: s2 :: s3 :: s4 :: s5 :: s6 :: .own ds :: r) = s0 :: s1 :: s2 :: s3 :: s4 :: s5 :: s6 :: .own es :: r := rfl
theorem x_pp7 {s0 s1 s2 s3 s4 s5 s6 : Sl} {ds es : List D} {r : En} : putL 7 es (s0 :: s1 :: s2 :: s3 :: s4 :: s5 :: s6 :: .par ds :: r) = s0 :: s1 :: s2 :: s3 :: s4 :: s5 :: s6 :: .par es :: r := rfl
theorem x_cp7 {s0 s1 s2 s3 s4 s5 s6 : Sl} {cs : List D} {r : En} (call : Str → En → Res D) (g : Str) (A : M D) : callP call g 2 7 [A] (s0 :: s1 :: s2 :: s3 :: s4 :: s5 :: s6 :: .own cs :: r) = (A (s0 :: s1 :: s2 :: s3 :: s4 :: s5 :: s6 :: .own cs :: r)).andThen fun a e1 => match lent 7 e1 with
  | some cs => (call g [.par cs, .val a]).lentTo 7 e1
  | none => .bad := x_callP2 call g 7 A _ rfl
theorem x_cq7 {s0 s1 s2 s3 s4 s5 s6 : Sl} {cs : List D} {r : En} (call : Str → En → Res D) (g : Str) (A : M D) : callP call g 2 7 [A] (s0 :: s1 :: s2 :: s3 :: s4 :: s5 :: s6 :: .par cs :: r) = (A (s0 :: s1 :: s2 :: s3 :: s4 :: s5 :: s6 :: .par cs :: r)).andThen fun a e1 => match lent 7 e1 with
  | some cs => (call g [.par cs, .val a]).lentTo 7 e1
  | none => .bad := x_callP2 call g 7 A _ rfl
theorem x_rd8 {s0 s1 s2 s3 s4 s5 s6 s7 : Sl} {d : D} {r : En} : rdSlot 8 (s0 :: s1 :: s2 :: s3 :: s4 :: s5 :: s6 :: s7 :: .val d :: r) = .ok d (s0 :: s1 :: s2 :: s3 :: s4 :: s5 :: s6 :: s7 :: .val d :: r) := rfl
theorem x_rdo8 {s0 s1 s2 s3 s4 s5 s6 s7 : Sl} {ds : List D} {r : En} : rdSlot 8 (s0 :: s1 :: s2 :: s3 :: s4 :: s5 :: s6 :: s7 :: .own ds :: r) = .ok (.list ds) (s0 :: s1 :: s2 :: s3 :: s4 :: s5 :: s6 :: s7 :: .val (.list ds) :: r) := rfl
theorem x_wv8 {s0 s1 s2 s3 s4 s5 s6 s7 : Sl} {d : D} {v : Sl} {r : En} : wrSlot 8 v (s0 :: s1 :: s2 :: s3 :: s4 :: s5 :: s6 :: s7 :: .val d :: r) = .ok () (s0 :: s1 :: s2 :: s3 :: s4 :: s5 :: s6 :: s7 :: v :: r) := rfl
theorem x_wo8 {s0 s1 s2 s3 s4 s5 s6 s7 : Sl} {ds : List D} {v : Sl} {r : En} : wrSlot 8 v (s0 :: s1 :: s2 :: s3 :: s4 :: s5 :: s6 :: s7 :: .own ds :: r) = .ok () (s0 :: s1 :: s2 :: s3 :: s4 :: s5 :: s6 :: s7 :: v :: r) := rfl
theorem x_wn8 {s0 s1 s2 s3 s4 s5 s6 s7 : Sl} {v : Sl} {r : En} : wrSlot 8 v (s0 :: s1 :: s2 :: s3 :: s4 :: s5 :: s6 :: s7 :: .non :: r) = .ok () (s0 :: s1 :: s2 :: s3 :: s4 :: s5 :: s6 :: s7 :: v :: r) := rfl
theorem x_ixv8 {s0 s1 s2 s3 s4 s5 s6 s7 : Sl} {d : D} {r : En} (A I : M D) : ixN 8 A I (s0 :: s1 :: s2 :: s3 :: s4 :: s5 :: s6 :: s7 :: .val d :: r) = (A (s0 :: s1 :: s2 :: s3 :: s4 :: s5 :: s6 :: s7 :: .val d :: r)).andThen fun x e1 => (I e1).andThen fun y => opt (ixD x y) := rfl
theorem x_lnv8 {s0 s1 s2 s3 s4 s5 s6 s7 : Sl} {d : D} {r : En} (A : M D) : lenN 8 A (s0 :: s1 :: s2 :: s3 :: s4 :: s5 :: s6 :: s7 :: .val d :: r) = bfM lenD [A] (s0 :: s1 :: s2 :: s3 :: s4 :: s5 :: s6 :: s7 :: .val d :: r) := rfl
theorem x_lno8 {s0 s1 s2 s3 s4 s5 s6 s7 : Sl} {ds : List D} {r : En} (A : M D) : lenN 8 A (s0 :: s1 :: s2 :: s3 :: s4 :: s5 :: s6 :: s7 :: .own ds :: r) = .ok (.int ds.length) (s0 :: s1 :: s2 :: s3 :: s4 :: s5 :: s6 :: s7 :: .own ds :: r) := rfl
theorem x_mtv8 {s0 s1 s2 s3 s4 s5 s6 s7 : Sl} {d : D} {r : En} (O : Nat → M D) (R : M D) : mtN 8 O R (s0 :: s1 :: s2 :: s3 :: s4 :: s5 :: s6 :: s7 :: .val d :: r) = R (s0 :: s1 :: s2 :: s3 :: s4 :: s5 :: s6 :: s7 :: .val d :: r) := rfl
theorem x_mto8 {s0 s1 s2 s3 s4 s5 s6 s7 : Sl} {ds : List D} {r : En} (O : Nat → M D) (R : M D) : mtN 8 O R (s0 :: s1 :: s2 :: s3 :: s4 :: s5 :: s6 :: s7 :: .own ds :: r) = O 8 (s0 :: s1 :: s2 :: s3 :: s4 :: s5 :: s6 :: s7 :: .own ds :: r) := rfl
theorem x_lt8 {s0 s1 s2 s3 s4 s5 s6 s7 : Sl} {ds : List D} {r : En} : lent 8 (s0 :: s1 :: s2 :: s3 :: s4 :: s5 :: s6 :: s7 :: .own ds :: r) = some ds := rfl
theorem x_lp8 {s0 s1 s2 s3 s4 s5 s6 s7 : Sl} {ds : List D} {r : En} : lent 8 (s0 :: s1 :: s2 :: s3 :: s4 :: s5 :: s6 :: s7 :: .par ds :: r) = some ds := rfl
theorem x_pt8 {s0 s1 s2 s3 s4 s5 s6 s7 : Sl} {ds es : List D} {r : En} : putL 8 es (s0 :: s1 :: s2 :: s3 :: s4 :: s5 :: s6 :: s7 :: .own ds :: r) = s0 :: s1 :: s2 :: s3 :: s4 :: s5 :: s6 :: s7 :: .own es :: r := rfl
theorem x_pp8 {s0 s1 s2 s3 s4 s5 s6 s7 : Sl} {ds es : List D} {r : En} : putL 8 es (s0 :: s1 :: s2 :: s3 :: s4 :: s5 :: s6 :: s7 :: .par ds :: r) = s0 :: s1 :: s2 :: s3 :: s4 :: s5 :: s6 :: s7 :: .par es :: r := rfl
theorem x_cp8 {s0 s1 s2 s3 s4 s5 s6 s7 : Sl} {cs : List D} {r : En} (call : Str → En → Res D) (g : Str) (A : M D) : callP call g 2 8 [A] (s0 :: s1 :: s2 :: s3 :: s4 :: s5 :: s6 :: s7 :: .own cs :: r) = (A (s0 :: s1 :: s2 :: s3 :: s4 :: s5 :: s6 :: s7 :: .own cs :: r)).andThen fun a e1 => match lent 8 e1 with
  | some cs => (call g [.par cs, .val a]).lentTo 8 e1
  | none => .bad := x_callP2 call g 8 A _ rfl
theorem x_cq8 {s0 s1 s2 s3 s4 s5 s6 s7 : Sl} {cs : List D} {r : En} (call : Str → En → Res D) (g : Str) (A : M D) : callP call g 2 8 [A] (s0 :: s1 :: s2 :: s3 :: s4 :: s5 :: s6 :: s7 :: .par cs :: r) = (A (s0 :: s1 :: s2 :: s3 :: s4 :: s5 :: s6 :: s7 :: .par cs :: r)).andThen fun a e1 => match lent 8 e1 with
  | some cs => (call g [.par cs, .val a]).lentTo 8 e1
  | none => .bad := x_callP2 call g 8 A _ rfl
theorem x_rd9 {s0 s1 s2 s3 s4 s5 s6 s7 s8 : Sl} {d : D} {r : En} : rdSlot 9 (s0 :: s1 :: s2 :: s3 :: s4 :: s5 :: s6 :: s7 :: s8 :: .val d :: r) = .ok d (s0 :: s1 :: s2 :: s3 :: s4 :: s5 :: s6 :: s7 :: s8 :: .val d :: r) := rfl
theorem x_rdo9 {s0 s1 s2 s3 s4 s5 s6 s7 s8 : Sl} {ds : List D} {r : En} : rdSlot 9 (s0 :: s1 :: s2 :: s3 :: s4 :: s5 :: s6 :: s7 :: s8 :: .own ds :: r) = .ok (.list ds) (s0 :: s1 :: s2 :: s3 :: s4 :: s5 :: s6 :: s7 :: s8 :: .val (.list ds) :: r) := rfl
theorem x_wv9 {s0 s1 s2 s3 s4 s5 s6 s7 s8 : Sl} {d : D} {v : Sl} {r : En} : wrSlot 9 v (s0 :: s1 :: s2 :: s3 :: s4 :: s5 :: s6 :: s7 :: s8 :: .val d :: r) = .ok () (s0 :: s1 :: s2 :: s3 :: s4 :: s5 :: s6 :: s7 :: s8 :: v :: r) := rfl
theorem x_wo9 {s0 s1 s2 s3 s4 s5 s6 s7 s8 : Sl} {ds : List D} {v : Sl} {r : En} : wrSlot 9 v (s0 :: s1 :: s2 :: s3 :: s4 :: s5 :: s6 :: s7 :: s8 :: .own ds :: r) = .ok () (s0 :: s1 :: s2 :: s3 :: s4 :: s5 :: s6 :: s7 :: s8 :: v :: r) := rfl
theorem x_wn9 {s0 s1 s2 s3 s4 s5 s6 s7 s8 : Sl} {v : Sl} {r : En} : wrSlot 9 v (s0 :: s1 :: s2 :: s3 :: s4 :: s5 :: s6 :: s7 :: s8 :: .non :: r) = .ok () (s0 :: s1 :: s2 :: s3 :: s4 :: s5 :: s6 :: s7 :: s8 :: v :: r) := rfl
theorem x_ixv9 {s0 s1 s2 s3 s4 s5 s6 s7 s8 : Sl} {d : D} {r : En} (A I : M D) : ixN 9 A I (s0 :: s1 :: s2 :: s3 :: s4 :: s5 :: s6 :: s7 :: s8 :: .val d :: r) = (A (s0 :: s1 :: s2 :: s3 :: s4 :: s5 :: s6 :: s7 :: s8 :: .val d :: r)).andThen fun x e1 => (I e1).andThen fun y => opt (ixD x y) := rfl
theorem x_lnv9 {s0 s1 s2 s3 s4 s5 s6 s7 s8 : Sl} {d : D} {r : En} (A : M D) : lenN 9 A (s0 :: s1 :: s2 :: s3 :: s4 :: s5 :: s6 :: s7 :: s8 :: .val d :: r) = bfM lenD [A] (s0 :: s1 :: s2 :: s3 :: s4 :: s5 :: s6 :: s7 :: s8 :: .val d :: r) := rfl
theorem x_lno9 {s0 s1 s2 s3 s4 s5 s6 s7 s8 : Sl} {ds : List D} {r : En} (A : M D) : lenN 9 A (s0 :: s1 :: s2 :: s3 :: s4 :: s5 :: s6 :: s7 :: s8 :: .own ds :: r) = .ok (.int ds.length) (s0 :: s1 :: s2 :: s3 :: s4 :: s5 :: s6 :: s7 :: s8 :: .own ds :: r) := rfl
theorem x_mtv9 {s0 s1 s2 s3 s4 s5 s6 s7 s8 : Sl} {d : D} {r : En} (O : Nat → M D) (R : M D) : mtN 9 O R (s0 :: s1 :: s2 :: s3 :: s4 :: s5 :: s6 :: s7 :: s8 :: .val d :: r) = R (s0 :: s1 :: s2 :: s3 :: s4 :: s5 :: s6 :: s7 :: s8 :: .val d :: r) := rfl
theorem x_mto9 {s0 s1 s2 s3 s4 s5 s6 s7 s8 : Sl} {ds : List D} {r : En} (O : Nat → M D) (R : M D) : mtN 9 O R (s0 :: s1 :: s2 :: s3 :: s4 :: s5 :: s6 :: s7 :: s8 :: .own ds :: r) = O 9 (s0 :: s1 :: s2 :: s3 :: s4 :: s5 :: s6 :: s7 :: s8 :: .own ds :: r) := rfl
theorem x_lt9 {s0 s1 s2 s3 s4 s5 s6 s7 s8 : Sl} {ds : List D} {r : En} : lent 9 (s0 :: s1 :: s2 :: s3 :: s4 :: s5 :: s6 :: s7 :: s8 :: .own ds :: r) = some ds := rfl
theorem x_lp9 {s0 s1 s2 s3 s4 s5 s6 s7 s8 : Sl} {ds : List D} {r : En} : lent 9 (s0 :: s1 :: s2 :: s3 :: s4 :: s5 :: s6 :: s7 :: s8 :: .par ds :: r) = some ds := rfl
theorem x_pt9 {s0 s1 s2 s3 s4 s5 s6 s7 s8 : Sl} {ds es : List D} {r : En} : putL 9 es (s0 :: s1 :: s2 :: s3 :: s4 :: s5 :: s6 :: s7 :: s8 :: .own ds :: r) = s0 :: s1 :: s2 :: s3 :: s4 :: s5 :: s6 :: s7 :: s8 :: .own es :: r := rfl
theorem x_pp9 {s0 s1 s2 s3 s4 s5 s6 s7 s8 : Sl} {ds es : List D} {r : En} : putL 9 es (s0 :: s1 :: s2 :: s3 :: s4 :: s5 :: s6 :: s7 :: s8 :: .par ds :: r) = s0 :: s1 :: s2 :: s3 :: s4 :: s5 :: s6 :: s7 :: s8 :: .par es :: r := rfl
theorem x_cp9 {s0 s1 s2 s3 s4 s5 s6 s7 s8 : Sl} {cs : List D} {r : En} (call : Str → En → Res D) (g : Str) (A : M D) : callP call g 2 9 [A] (s0 :: s1 :: s2 :: s3 :: s4 :: s5 :: s6 :: s7 :: s8 :: .own cs :: r) = (A (s0 :: s1 :: s2 :: s3 :: s4 :: s5 :: s6 :: s7 :: s8 :: .own cs :: r)).andThen fun a e1 => match lent 9 e1 with
  | some cs => (call g [.par cs, .val a]).lentTo 9 e1
  | none => .bad := x_callP2 call g 9 A _ rfl
theorem x_cq9 {s0 s1 s2 s3 s4 s5 s6 s7 s8 : Sl} {cs : List D} {r : En} (call : Str → En → Res D) (g : Str) (A : M D) : callP call g 2 9 [A] (s0 :: s1 :: s2 :: s3 :: s4 :: s5 :: s6 :: s7 :: s8 :: .par cs :: r) = (A (s0 :: s1 :: s2 :: s3 :: s4 :: s5 :: s6 :: s7 :: s8 :: .par cs :: r)).andThen fun a e1 => match lent 9 e1 with
  | some cs => (call g [.par cs, .val a]).lentTo 9 e1
  | none => .bad := x_callP2 call g 9 A _ rfl
theorem x_rd10 {s0 s1 s2 s3 s4 s5 s6 s7 s8 s9 : Sl} {d : D} {r : En} : rdSlot 10 (s0 :: s1 :: s2 :: s3 :: s4 :: s5 :: s6 :: s7 :: s8 :: s9 :: .val d :: r) = .ok d (s0 :: s1 :: s2 :: s3 :: s4 :: s5 :: s6 :: s7 :: s8 :: s9 :: .val d :: r) := rfl
theorem x_rdo10 {s0 s1 s2 s3 s4 s5 s6 s7 s8 s9 : Sl} {ds : List D} {r : En} : rdSlot 10 (s0 :: s1 :: s2 :: s3 :: s4 :: s5 :: s6 :: s7 :: s8 :: s9 :: .own ds :: r) = .ok (.list ds) (s0 :: s1 :: s2 :: s3 :: s4 :: s5 :: s6 :: s7 :: s8 :: s9 :: .val (.list ds) :: r) := rfl
theorem x_wv10 {s0 s1 s2 s3 s4 s5 s6 s7 s8 s9 : Sl} {d : D} {v : Sl} {r : En} : wrSlot 10 v (s0 :: s1 :: s2 :: s3 :: s4 :: s5 :: s6 :: s7 :: s8 :: s9 :: .val d :: r) = .ok () (s0 :: s1 :: s2 :: s3 :: s4 :: s5 :: s6 :: s7 :: s8 :: s9 :: v :: r) := rfl
theorem x_wo10 {s0 s1 s2 s3 s4 s5 s6 s7 s8 s9 : Sl} {ds : List D} {v : Sl} {r : En} : wrSlot 10 v (s0 :: s1 :: s2 :: s3 :: s4 :: s5 :: s6 :: s7 :: s8 :: s9 :: .own ds :: r) = .ok () (s0 :: s1 :: s2 :: s3 :: s4 :: s5 :: s6 :: s7 :: s8 :: s9 :: v :: r) := rfl
theorem x_wn10 {s0 s1 s2 s3 s4 s5 s6 s7 s8 s9 : Sl} {v : Sl} {r : En} : wrSlot 10 v (s0 :: s1 :: s2 :: s3 :: s4 :: s5 :: s6 :: s7 :: s8 :: s9 :: .non :: r) = .ok () (s0 :: s1 :: s2 :: s3 :: s4 :: s5 :: s6 :: s7 :: s8 :: s9 :: v :: r) := rfl
theorem x_ixv10 {s0 s1 s2 s3 s4 s5 s6 s7 s8 s9 : Sl} {d : D} {r : En} (A I : M D) : ixN 10 A I (s0 :: s1 :: s2 :: s3 :: s4 :: s5 :: s6 :: s7 :: s8 :: s9 :: .val d :: r) = (A (s0 :: s1 :: s2 :: s3 :: s4 :: s5 :: s6 :: s7 :: s8 :: s9 :: .val d :: r)).andThen fun x e1 => (I e1).andThen fun y => opt (ixD x y) := rfl
theorem x_lnv10 {s0 s1 s2 s3 s4 s5 s6 s7 s8 s9 : Sl} {d : D} {r : En} (A : M D) : lenN 10 A (s0 :: s1 :: s2 :: s3 :: s4 :: s5 :: s6 :: s7 :: s8 :: s9 :: .val d :: r) = bfM lenD [A] (s0 :: s1 :: s2 :: s3 :: s4 :: s5 :: s6 :: s7 :: s8 :: s9 :: .val d :: r) := rfl
theorem x_lno10 {s0 s1 s2 s3 s4 s5 s6 s7 s8 s9 : Sl} {ds : List D} {r : En} (A : M D) : lenN 10 A (s0 :: s1 :: s2 :: s3 :: s4 :: s5 :: s6 :: s7 :: s8 :: s9 :: .own ds :: r) = .ok (.int ds.length) (s0 :: s1 :: s2 :: s3 :: s4 :: s5 :: s6 :: s7 :: s8 :: s9 :: .own ds :: r) := rfl
theorem x_mtv10 {s0 s1 s2 s3 s4 s5 s6 s7 s8 s9 : Sl} {d : D} {r : En} (O : Nat → M D) (R : M D) : mtN 10 O R (s0 :: s1 :: s2 :: s3 :: s4 :: s5 :: s6 :: s7 :: s8 :: s9 :: .val d :: r) = R (s0 :: s1 :: s2 :: s3 :: s4 :: s5 :: s6 :: s7 :: s8 :: s9 :: .val d :: r) := rfl
theorem x_mto10 {s0 s1 s2 s3 s4 s5 s6 s7 s8 s9 : Sl} {ds : List D} {r : En} (O : Nat → M D) (R : M D) : mtN 10 O R (s0 :: s1 :: s2 :: s3 :: s4 :: s5 :: s6 :: s7 :: s8 :: s9 :: .own ds :: r) = O 10 (s0 :: s1 :: s2 :: s3 :: s4 :: s5 :: s6 :: s7 :: s8 :: s9 :: .own ds :: r) := rfl
theorem x_lt10 {s0 s1 s2 s3 s4 s5 s6 s7 s8 s9 : Sl} {ds : List D} {r : En} : lent 10 (s0 :: s1 :: s2 :: s3 :: s4 :: s5 :: s6 :: s7 :: s8 :: s9 :: .own ds :: r) = some ds := rfl
theorem x_lp10 {s0 s1 s2 s3 s4 s5 s6 s7 s8 s9 : Sl} {ds : List D} {r : En} : lent 10 (s0 :: s1 :: s2 :: s3 :: s4 :: s5 :: s6 :: s7 :: s8 :: s9 :: .par ds :: r) = some ds := rfl
theorem x_pt10 {s0 s1 s2 s3 s4 s5 s6 s7 s8 s9 : Sl} {ds es : List D} {r : En} : putL 10 es (s0 :: s1 :: s2 :: s3 :: s4 :: s5 :: s6 :: s7 :: s8 :: s9 :: .own ds :: r) = s0 :: s1 :: s2 :: s3 :: s4 :: s5 :: s6 :: s7 :: s8 :: s9 :: .own es :: r := rfl
theorem x_pp10 {s0 s1 s2 s3 s4 s5 s6 s7 s8 s9 : Sl} {ds es : List D} {r : En} : putL 10 es (s0 :: s1 :: s2 :: s3 :: s4 :: s5 :: s6 :: s7 :: s8 :: s9 :: .par ds :: r) = s0 :: s1 :: s2 :: s3 :: s4 :: s5 :: s6 :: s7 :: s8 :: s9 :: .par es :: r := rfl
theorem x_cp10 {s0 s1 s2 s3 s4 s5 s6 s7 s8 s9 : Sl} {cs : List D} {r : En} (call : Str → En → Res D) (g : Str) (A : M D) : callP call g 2 10 [A] (s0 :: s1 :: s2 :: s3 :: s4 :: s5 :: s6 :: s7 :: s8 :: s9 :: .own cs :: r) = (A (s0 :: s1 :: s2 :: s3 :: s4 :: s5 :: s6 :: s7 :: s8 :: s9 :: .own cs :: r)).andThen fun a e1 => match lent 10 e1 with
  | some cs => (call g [.par cs, .val a]).lentTo 10 e1
  | none => .bad := x_callP2 call g 10 A _ rfl
theorem x_cq10 {s0 s1 s2 s3 s4 s5 s6 s7 s8 s9 : Sl} {cs : List D} {r : En} (call : Str → En → Res D) (g : Str) (A : M D) : callP call g 2 10 [A] (s0 :: s1 :: s2 :: s3 :: s4 :: s5 :: s6 :: s7 :: s8 :: s9 :: .par cs :: r) = (A (s0 :: s1 :: s2 :: s3 :: s4 :: s5 :: s6 :: s7 :: s8 :: s9 :: .par cs :: r)).andThen fun a e1 => match lent 10 e1 with
  | some cs => (call g [.par cs, .val a]).lentTo 10 e1
  | none => .bad := x_callP2 call g 10 A _ rfl
theorem x_rd11 {s0 s1 s2 s3 s4 s5 s6 s7 s8 s9 s10 : Sl} {d : D} {r : En} : rdSlot 11 (s0 :: s1 :: s2 :: s3 :: s4 :: s5 :: s6 :: s7 :: s8 :: s9 :: s10 :: .val d :: r) = .ok d (s0 :: s1 :: s2 :: s3 :: s4 :: s5 :: s6 :: s7 :: s8 :: s9 :: s10 :: .val d :: r) := rfl
theorem x_rdo11 {s0 s1 s2 s3 s4 s5 s6 s7 s8 s9 s10 : Sl} {ds : List D} {r : En} : rdSlot 11 (s0 :: s1 :: s2 :: s3 :: s4 :: s5 :: s6 :: s7 :: s8 :: s9 :: s10 :: .own ds :: r) = .ok (.list ds) (s0 :: s1 :: s2 :: s3 :: s4 :: s5 :: s6 :: s7 :: s8 :: s9 :: s10 :: .val (.list ds) :: r) := rfl
theorem x_wv11 {s0 s1 s2 s3 s4 s5 s6 s7 s8 s9 s10 : Sl} {d : D} {v : Sl} {r : En} : wrSlot 11 v (s0 :: s1 :: s2 :: s3 :: s4 :: s5 :: s6 :: s7 :: s8 :: s9 :: s10 :: .val d :: r) = .ok () (s0 :: s1 :: s2 :: s3 :: s4 :: s5 :: s6 :: s7 :: s8 :: s9 :: s10 :: v :: r) := rfl
theorem x_wo11 {s0 s1 s2 s3 s4 s5 s6 s7 s8 s9 s10 : Sl} {ds : List D} {v : Sl} {r : En} : wrSlot 11 v (s0 :: s1 :: s2 :: s3 :: s4 :: s5 :: s6 :: s7 :: s8 :: s9 :: s10 :: .own ds :: r) = .ok () (s0 :: s1 :: s2 :: s3 :: s4 :: s5 :: s6 :: s7 :: s8 :: s9 :: s10 :: v :: r) := rfl
theorem x_wn11 {s0 s1 s2 s3 s4 s5 s6 s7 s8 s9 s10 : Sl} {v : Sl} {r : En} : wrSlot 11 v (s0 :: s1 :: s2 :: s3 :: s4 :: s5 :: s6 :: s7 :: s8 :: s9 :: s10 :: .non :: r) = .ok () (s0 :: s1 :: s2 :: s3 :: s4 :: s5 :: s6 :: s7 :: s8 :: s9 :: s10 :: v :: r) := rfl
theorem x_ixv11 {s0 s1 s2 s3 s4 s5 s6 s7 s8 s9 s10 : Sl} {d : D} {r : En} (A I : M D) : ixN 11 A I (s0 :: s1 :: s2 :: s3 :: s4 :: s5 :: s6 :: s7 :: s8 :: s9 :: s10 :: .val d :: r) = (A (s0 :: s1 :: s2 :: s3 :: s4 :: s5 :: s6 :: s7 :: s8 :: s9 :: s10 :: .val d :: r)).andThen fun x e1 => (I e1).andThen fun y => opt (ixD x y) := rfl
theorem x_lnv11 {s0 s1 s2 s3 s4 s5 s6 s7 s8 s9 s10 : Sl} {d : D} {r : En} (A : M D) : lenN 11 A (s0 :: s1 :: s2 :: s3 :: s4 :: s5 :: s6 :: s7 :: s8 :: s9 :: s10 :: .val d :: r) = bfM lenD [A] (s0 :: s1 :: s2 :: s3 :: s4 :: s5 :: s6 :: s7 :: s8 :: s9 :: s10 :: .val d :: r) := rfl
theorem x_lno11 {s0 s1 s2 s3 s4 s5 s6 s7 s8 s9 s10 : Sl} {ds : List D} {r : En} (A : M D) : lenN 11 A (s0 :: s1 :: s2 :: s3 :: s4 :: s5 :: s6 :: s7 :: s8 :: s9 :: s10 :: .own ds :: r) = .ok (.int ds.length) (s0 :: s1 :: s2 :: s3 :: s4 :: s5 :: s6 :: s7 :: s8 :: s9 :: s10 :: .own ds :: r) := rfl
theorem x_mtv11 {s0 s1 s2 s3 s4 s5 s6 s7 s8 s9 s10 : Sl} {d : D} {r : En} (O : Nat → M D) (R : M D) : mtN 11 O R (s0 :: s1 :: s2 :: s3 :: s4 :: s5 :: s6 :: s7 :: s8 :: s9 :: s10 :: .val d :: r) = R (s0 :: s1 :: s2 :: s3 :: s4 :: s5 :: s6 :: s7 :: s8 :: s9 :: s10 :: .val d :: r) := rfl
theorem x_mto11 {s0 s1 s2 s3 s4 s5 s6 s7 s8 s9 s10 : Sl} {ds : List D} {r : En} (O : Nat → M D) (R : M D) : mtN 11 O R (s0 :: s1 :: s2 :: s3 :: s4 :: s5 :: s6 :: s7 :: s8 :: s9 :: s10 :: .own ds :: r) = O 11 (s0 :: s1 :: s2 :: s3 :: s4 :: s5 :: s6 :: s7 :: s8 :: s9 :: s10 :: .own ds :: r) := rfl
theorem x_lt11 {s0 s1 s2 s3 s4 s5 s6 s7 s8 s9 s10 : Sl} {ds : List D} {r : En} : lent 11 (s0 :: s1 :: s2 :: s3 :: s4 :: s5 :: s6 :: s7 :: s8 :: s9 :: s10 :: .own ds :: r) = some ds := rfl
theorem x_lp11 {s0 s1 s2 s3 s4 s5 s6 s7 s8 s9 s10 : Sl} {ds : List D} {r : En} : lent 11 (s0 :: s1 :: s2 :: s3 :: s4 :: s5 :: s6 :: s7 :: s8 :: s9 :: s10 :: .par ds :: r) = some ds := rfl
theorem x_pt11 {s0 s1 s2 s3 s4 s5 s6 s7 s8 s9 s10 : Sl} {ds es : List D} {r : En} : putL 11 es (s0 :: s1 :: s2 :: s3 :: s4 :: s5 :: s6 :: s7 :: s8 :: s9 :: s10 :: .own ds :: r) = s0 :: s1 :: s2 :: s3 :: s4 :: s5 :: s6 :: s7 :: s8 :: s9 :: s10 :: .own es :: r := rfl
theorem x_pp11 {s0 s1 s2 s3 s4 s5 s6 s7 s8 s9 s10 : Sl} {ds es : List D} {r : En} : putL 11 es (s0 :: s1 :: s2 :: s3 :: s4 :: s5 :: s6 :: s7 :: s8 :: s9 :: s10 :: .par ds :: r) = s0 :: s1 :: s2 :: s3 :: s4 :: s5 :: s6 :: s7 :: s8 :: s9 :: s10 :: .par es :: r := rfl
theorem x_cp11 {s0 s1 s2 s3 s4 s5 s6 s7 s8 s9 s10 : Sl} {cs : List D} {r : En} (call : Str → En → Res D) (g : Str) (A : M D) : callP call g 2 11 [A] (s0 :: s1 :: s2 :: s3 :: s4 :: s5 :: s6 :: s7 :: s8 :: s9 :: s10 :: .own cs :: r) = (A (s0 :: s1 :: s2 :: s3 :: s4 :: s5 :: s6 :: s7 :: s8 :: s9 :: s10 :: .own cs :: r)).andThen fun a e1 => match lent 11 e1 with
  | some cs => (call g [.par cs, .val a]).lentTo 11 e1
  | none => .bad := x_callP2 call g 11 A _ rfl
theorem x_cq11 {s0 s1 s2 s3 s4 s5 s6 s7 s8 s9 s10 : Sl} {cs : List D} {r : En} (call : Str → En → Res D) (g : Str) (A : M D) : callP call g 2 11 [A] (s0 :: s1 :: s2 :: s3 :: s4 :: s5 :: s6 :: s7 :: s8 :: s9 :: s10 :: .par cs :: r) = (A (s0 :: s1 :: s2 :: s3 :: s4 :: s5 :: s6 :: s7 :: s8 :: s9 :: s10 :: .par cs :: r)).andThen fun a e1 => match lent 11 e1 with
  | some cs => (call g [.par cs, .val a]).lentTo 11 e1
  | none => .bad := x_callP2 call g 11 A _ rfl
theorem x_rd12 {s0 s1 s2 s3 s4 s5 s6 s7 s8 s9 s10 s11 : Sl} {d : D} {r : En} : rdSlot 12 (s0 :: s1 :: s2 :: s3 :: s4 :: s5 :: s6 :: s7 :: s8 :: s9 :: s10 :: s11 :: .val d :: r) = .ok d (s0 :: s1 :: s2 :: s3 :: s4 :: s5 :: s6 :: s7 :: s8 :: s9 :: s10 :: s11 :: .val d :: r) := rfl
theorem x_rdo12 {s0 s1 s2 s3 s4 s5 s6 s7 s8 s9 s10 s11 : Sl} {ds : List D} {r : En} : rdSlot 12 (s0 :: s1 :: s2 :: s3 :: s4 :: s5 :: s6 :: s7 :: s8 :: s9 :: s10 :: s11 :: .own ds :: r) = .ok (.list ds) (s0 :: s1 :: s2 :: s3 :: s4 :: s5 :: s6 :: s7 :: s8 :: s9 :: s10 :: s11 :: .val (.list ds) :: r) := rfl
theorem x_wv12 {s0 s1 s2 s3 s4 s5 s6 s7 s8 s9 s10 s11 : Sl} {d : D} {v : Sl} {r : En} : wrSlot 12 v (s0 :: s1 :: s2 :: s3 :: s4 :: s5 :: s6 :: s7 :: s8 :: s9 :: s10 :: s11 :: .val d :: r) = .ok () (s0 :: s1 :: s2 :: s3 :: s4 :: s5 :: s6 :: s7 :: s8 :: s9 :: s10 :: s11 :: v :: r) := rfl
theorem x_wo12 {s0 s1 s2 s3 s4 s5 s6 s7 s8 s9 s10 s11 : Sl} {ds : List D} {v : Sl} {r : En} : wrSlot 12 v (s0 :: s1 :: s2 :: s3 :: s4 :: s5 :: s6 :: s7 :: s8 :: s9 :: s10 :: s11 :: .own ds :: r) = .ok () (s0 :: s1 :: s2 :: s3 :: s4 :: s5 :: s6 :: s7 :: s8 :: s9 :: s10 :: s11 :: v :: r) := rfl
theorem x_wn12 {s0 s1 s2 s3 s4 s5 s6 s7 s8 s9 s10 s11 : Sl} {v : Sl} {r : En} : wrSlot 12 v (s0 :: s1 :: s2 :: s3 :: s4 :: s5 :: s6 :: s7 :: s8 :: s9 :: s10 :: s11 :: .non :: r) = .ok () (s0 :: s1 :: s2 :: s3 :: s4 :: s5 :: s6 :: s7 :: s8 :: s9 :: s10 :: s11 :: v :: r) := rfl
theorem x_ixv12 {s0 s1 s2 s3 s4 s5 s6 s7 s8 s9 s10 s11 : Sl} {d : D} {r : En} (A I : M D) : ixN 12 A I (s0 :: s1 :: s2 :: s3 :: s4 :: s5 :: s6 :: s7 :: s8 :: s9 :: s10 :: s11 :: .val d :: r) = (A (s0 :: s1 :: s2 :: s3 :: s4 :: s5 :: s6 :: s7 :: s8 :: s9 :: s10 :: s11 :: .val d :: r)).andThen fun x e1 => (I e1).andThen fun y => opt (ixD x y) := rfl
theorem x_lnv12 {s0 s1 s2 s3 s4 s5 s6 s7 s8 s9 s10 s11 : Sl} {d : D} {r : En} (A : M D) : lenN 12 A (s0 :: s1 :: s2 :: s3 :: s4 :: s5 :: s6 :: s7 :: s8 :: s9 :: s10 :: s11 :: .val d :: r) = bfM lenD [A] (s0 :: s1 :: s2 :: s3 :: s4 :: s5 :: s6 :: s7 :: s8 :: s9 :: s10 :: s11 :: .val d :: r) := rfl
theorem x_lno12 {s0 s1 s2 s3 s4 s5 s6 s7 s8 s9 s10 s11 : Sl} {ds : List D} {r : En} (A : M D) : lenN 12 A (s0 :: s1 :: s2 :: s3 :: s4 :: s5 :: s6 :: s7 :: s8 :: s9 :: s10 :: s11 :: .own ds :: r) = .ok (.int ds.length) (s0 :: s1 :: s2 :: s3 :: s4 :: s5 :: s6 :: s7 :: s8 :: s9 :: s10 :: s11 :: .own ds :: r) := rfl
theorem x_mtv12 {s0 s1 s2 s3 s4 s5 s6 s7 s8 s9 s10 s11 : Sl} {d : D} {r : En} (O : Nat → M D) (R : M D) : mtN 12 O R (s0 :: s1 :: s2 :: s3 :: s4 :: s5 :: s6 :: s7 :: s8 :: s9 :: s10 :: s11 :: .val d :: r) = R (s0 :: s1 :: s2 :: s3 :: s4 :: s5 :: s6 :: s7 :: s8 :: s9 :: s10 :: s11 :: .val d :: r) := rfl
theorem x_mto12 {s0 s1 s2 s3 s4 s5 s6 s7 s8 s9 s10 s11 : Sl} {ds : List D} {r : En} (O : Nat → M D) (R : M D) : mtN 12 O R (s0 :: s1 :: s2 :: s3 :: s4 :: s5 :: s6 :: s7 :: s8 :: s9 :: s10 :: s11 :: .own ds :: r) = O 12 (s0 :: s1 :: s2 :: s3 :: s4 :: s5 :: s6 :: s7 :: s8 :: s9 :: s10 :: s11 :: .own ds :: r) := rfl
theorem x_lt12 {s0 s1 s2 s3 s4 s5 s6 s7 s8 s9 s10 s11 : Sl} {ds : List D} {r : En} : lent 12 (s0 :: s1 :: s2 :: s3 :: s4 :: s5 :: s6 :: s7 :: s8 :: s9 :: s10 :: s11 :: .own ds :: r) = some ds := rfl
theorem x_lp12 {s0 s1 s2 s3 s4 s5 s6 s7 s8 s9 s10 s11 : Sl} {ds : List D} {r : En} : lent 12 (s0 :: s1 :: s2 :: s3 :: s4 :: s5 :: s6 :: s7 :: s8 :: s9 :: s10 :: s11 :: .par ds :: r) = some ds := rfl
theorem x_pt12 {s0 s1 s2 s3 s4 s5 s6 s7 s8 s9 s10 s11 : Sl} {ds es : List D} {r : En} : putL 12 es (s0 :: s1 :: s2 :: s3 :: s4 :: s5 :: s6 :: s7 :: s8 :: s9 :: s10 :: s11 :: .own ds :: r) = s0 :: s1 :: s2 :: s3 :: s4 :: s5 :: s6 :: s7 :: s8 :: s9 :: s10 :: s11 :: .own es :: r := rfl
theorem x_pp12 {s0 s1 s2 s3 s4 s5 s6 s7 s8 s9 s10 s11 : Sl} {ds es : List D} {r : En} : putL 12 es (s0 :: s1 :: s2 :: s3 :: s4 :: s5 :: s6 :: s7 :: s8 :: s9 :: s10 :: s11 :: .par ds :: r) = s0 :: s1 :: s2 :: s3 :: s4 :: s5 :: s6 :: s7 :: s8 :: s9 :: s10 :: s11 :: .par es :: r := rfl
theorem x_cp12 {s0 s1 s2 s3 s4 s5 s6 s7 s8 s9 s10 s11 : Sl} {cs : List D} {r : En} (call : Str → En → Res D) (g : Str) (A : M D) : callP call g 2 12 [A] (s0 :: s1 :: s2 :: s3 :: s4 :: s5 :: s6 :: s7 :: s8 :: s9 :: s10 :: s11 :: .own cs :: r) = (A (s0 :: s1 :: s2 :: s3 :: s4 :: s5 :: s6 :: s7 :: s8 :: s9 :: s10 :: s11 :: .own cs :: r)).andThen fun a e1 => match lent 12 e1 with
  | some cs => (call g [.par cs, .val a]).lentTo 12 e1
  | none => .bad := x_callP2 call g 12 A _ rfl
theorem x_cq12 {s0 s1 s2 s3 s4 s5 s6 s7 s8 s9 s10 s11 : Sl} {cs : List D} {r : En} (call : Str → En → Res D) (g : Str) (A : M D) : callP call g 2 12 [A] (s0 :: s1 :: s2 :: s3 :: s4 :: s5 :: s6 :: s7 :: s8 :: s9 :: s10 :: s11 :: .par cs :: r) = (A (s0 :: s1 :: s2 :: s3 :: s4 :: s5 :: s6 :: s7 :: s8 :: s9 :: s10 :: s11 :: .par cs :: r)).andThen fun a e1 => match lent 12 e1 with
  | some cs => (call g [.par cs, .val a]).lentTo 12 e1
  | none => .bad := x_callP2 call g 12 A _ rfl
theorem x_rd13 {s0 s1 s2 s3 s4 s5 s6 s7 s8 s9 s10 s11 s12 : Sl} {d : D} {r : En} : rdSlot 13 (s0 :: s1 :: s2 :: s3 :: s4 :: s5 :: s6 :: s7 :: s8 :: s9 :: s10 :: s11 :: s12 :: .val d :: r) = .ok d (s0 :: s1 :: s2 :: s3 :: s4 :: s5 :: s6 :: s7 :: s8 :: s9 :: s10 :: s11 :: s12 :: .val d :: r) := rfl
theorem x_rdo13 {s0 s1 s2 s3 s4 s5 s6 s7 s8 s9 s10 s11 s12 : Sl} {ds : List D} {r : En} : rdSlot 13 (s0 :: s1 :: s2 :: s3 :: s4 :: s5 :: s6 :: s7 :: s8 :: s9 :: s10 :: s11 :: s12 :: .own ds :: r) = .ok (.list ds) (s0 :: s1 :: s2 :: s3 :: s4 :: s5 :: s6 :: s7 :: s8 :: s9 :: s10 :: s11 :: s12 :: .val (.list ds) :: r) := rfl
theorem x_wv13 {s0 s1 s2 s3 s4 s5 s6 s7 s8 s9 s10 s11 s12 : Sl} {d : D} {v : Sl} {r : En} : wrSlot 13 v (s0 :: s1 :: s2 :: s3 :: s4 :: s5 :: s6 :: s7 :: s8 :: s9 :: s10 :: s11 :: s12 :: .val d :: r) = .ok () (s0 :: s1 :: s2 :: s3 :: s4 :: s5 :: s6 :: s7 :: s8 :: s9 :: s10 :: s11 :: s12 :: v :: r) := rfl
theorem x_wo13 {s0 s1 s2 s3 s4 s5 s6 s7 s8 s9 s10 s11 s12 : Sl} {ds : List D} {v : Sl} {r : En} : wrSlot 13 v (s0 :: s1 :: s2 :: s3 :: s4 :: s5 :: s6 :: s7 :: s8 :: s9 :: s10 :: s11 :: s12 :: .own ds :: r) = .ok () (s0 :: s1 :: s2 :: s3 :: s4 :: s5 :: s6 :: s7 :: s8 :: s9 :: s10 :: s11 :: s12 :: v :: r) := rfl
theorem x_wn13 {s0 s1 s2 s3 s4 s5 s6 s7 s8 s9 s10 s11 s12 : Sl} {v : Sl} {r : En} : wrSlot 13 v (s0 :: s1 :: s2 :: s3 :: s4 :: s5 :: s6 :: s7 :: s8 :: s9 :: s10 :: s11 :: s12 :: .non :: r) = .ok () (s0 :: s1 :: s2 :: s3 :: s4 :: s5 :: s6 :: s7 :: s8 :: s9 :: s10 :: s11 :: s12 :: v :: r) := rfl
theorem x_ixv13 {s0 s1 s2 s3 s4 s5 s6 s7 s8 s9 s10 s11 s12 : Sl} {d : D} {r : En} (A I : M D) : ixN 13 A I (s0 :: s1 :: s2 :: s3 :: s4 :: s5 :: s6 :: s7 :: s8 :: s9 :: s10 :: s11 :: s12 :: .val d :: r) = (A (s0 :: s1 :: s2 :: s3 :: s4 :: s5 :: s6 :: s7 :: s8 :: s9 :: s10 :: s11 :: s12 :: .val d :: r)).andThen fun x e1 => (I e1).andThen fun y => opt (ixD x y) := rfl
theorem x_lnv13 {s0 s1 s2 s3 s4 s5 s6 s7 s8 s9 s10 s11 s12 : Sl} {d : D} {r : En} (A : M D) : lenN 13 A (s0 :: s1 :: s2 :: s3 :: s4 :: s5 :: s6 :: s7 :: s8 :: s9 :: s10 :: s11 :: s12 :: .val d :: r) = bfM lenD [A] (s0 :: s1 :: s2 :: s3 :: s4 :: s5 :: s6 :: s7 :: s8 :: s9 :: s10 :: s11 :: s12 :: .val d :: r) := rfl
theorem x_lno13 {s0 s1 s2 s3 s4 s5 s6 s7 s8 s9 s10 s11 s12 : Sl} {ds : List D} {r : En} (A : M D) : lenN 13 A (s0 :: s1 :: s2 :: s3 :: s4 :: s5 :: s6 :: s7 :: s8 :: s9 :: s10 :: s11 :: s12 :: .own ds :: r) = .ok (.int ds.length) (s0 :: s1 :: s2 :: s3 :: s4 :: s5 :: s6 :: s7 :: s8 :: s9 :: s10 :: s11 :: s12 :: .own ds :: r) := rfl
theorem x_mtv13 {s0 s1 s2 s3 s4 s5 s6 s7 s8 s9 s10 s11 s12 : Sl} {d : D} {r : En} (O : Nat → M D) (R : M D) : mtN 13 O R (s0 :: s1 :: s2 :: s3 :: s4 :: s5 :: s6 :: s7 :: s8 :: s9 :: s10 :: s11 :: s12 :: .val d :: r) = R (s0 :: s1 :: s2 :: s3 :: s4 :: s5 :: s6 :: s7 :: s8 :: s9 :: s10 :: s11 :: s12 :: .val d :: r) := rfl
theorem x_mto13 {s0 s1 s2 s3 s4 s5 s6 s7 s8 s9 s10 s11 s12 : Sl} {ds : List D} {r : En} (O : Nat → M D) (R : M D) : mtN 13 O R (s0 :: s1 :: s2 :: s3 :: s4 :: s5 :: s6 :: s7 :: s8 :: s9 :: s10 :: s11 :: s12 :: .own ds :: r) = O 13 (s0 :: s1 :: s2 :: s3 :: s4 :: s5 :: s6 :: s7 :: s8 :: s9 :: s10 :: s11 :: s12 :: .own ds :: r) := rfl
theorem x_lt13 {s0 s1 s2 s3 s4 s5 s6 s7 s8 s9 s10 s11 s12 : Sl} {ds : List D} {r : En} : lent 13 (s0 :: s1 :: s2 :: s3 :: s4 :: s5 :: s6 :: s7 :: s8 :: s9 :: s10 :: s11 :: s12 :: .own ds :: r) = some ds := rfl
theorem x_lp13 {s0 s1 s2 s3 s4 s5 s6 s7 s8 s9 s10 s11 s12 : Sl} {ds : List D} {r : En} : lent 13 (s0 :: s1 :: s2 :: s3 :: s4 :: s5 :: s6 :: s7 :: s8 :: s9 :: s10 :: s11 :: s12 :: .par ds :: r) = some ds := rfl
theorem x_pt13 {s0 s1 s2 s3 s4 s5 s6 s7 s8 s9 s10 s11 s12 : Sl} {ds es : List D} {r : En} : putL 13 es (s0 :: s1 :: s2 :: s3 :: s4 :: s5 :: s6 :: s7 :: s8 :: s9 :: s10 :: s11 :: s12 :: .own ds :: r) = s0 :: s1 :: s2 :: s3 :: s4 :: s5 :: s6 :: s7 :: s8 :: s9 :: s10 :: s11 :: s12 :: .own es :: r := rfl
theorem x_pp13 {s0 s1 s2 s3 s4 s5 s6 s7 s8 s9 s10 s11 s12 : Sl} {ds es : List D} {r : En} : putL 13 es (s0 :: s1 :: s2 :: s3 :: s4 :: s5 :: s6 :: s7 :: s8 :: s9 :: s10 :: s11 :: s12 :: .par ds :: r) = s0 :: s1 :: s2 :: s3 :: s4 :: s5 :: s6 :: s7 :: s8 :: s9 :: s10 :: s11 :: s12 :: .par es :: r := rfl
theorem x_cp13 {s0 s1 s2 s3 s4 s5 s6 s7 s8 s9 s10 s11 s12 : Sl} {cs : List D} {r : En} (call : Str → En → Res D) (g : Str) (A : M D) : callP call g 2 13 [A] (s0 :: s1 :: s2 :: s3 :: s4 :: s5 :: s6 :: s7 :: s8 :: s9 :: s10 :: s11 :: s12 :: .own cs :: r) = (A (s0 :: s1 :: s2 :: s3 :: s4 :: s5 :: s6 :: s7 :: s8 :: s9 :: s10 :: s11 :: s12 :: .own cs :: r)).andThen fun a e1 => match lent 13 e1 with
  | some cs => (call g [.par cs, .val a]).lentTo 13 e1
  | none => .bad := x_callP2 call g 13 A _ rfl
theorem x_cq13 {s0 s1 s2 s3 s4 s5 s6 s7 s8 s9 s10 s11 s12 : Sl} {cs : List D} {r : En} (call : Str → En → Res D) (g : Str) (A : M D) : callP call g 2 13 [A] (s0 :: s1 :: s2 :: s3 :: s4 :: s5 :: s6 :: s7 :: s8 :: s9 :: s10 :: s11 :: s12 :: .par cs :: r) = (A (s0 :: s1 :: s2 :: s3 :: s4 :: s5 :: s6 :: s7 :: s8 :: s9 :: s10 :: s11 :: s12 :: .par cs :: r)).andThen fun a e1 => match lent 13 e1 with
  | some cs => (call g [.par cs, .val a]).lentTo 13 e1
  | none => .bad := x_callP2 call g 13 A _ rfl
end TD

set_option Elab.async false
set_option linter.all false
set_option maxRecDepth 100000
/-! TV4: rewriting rules for runs, and for typed data. -/
local macro_rules | `(tactic| simp! only [$args,*]) => `(tactic| simp -implicitDefEqProofs only [List.length_cons, List.length_nil, ↓reduceIte, List.replicate, List.cons_append, List.nil_append, List.map_cons, List.map_nil, Option.map_some, Bool.not_true, Bool.not_false, Bool.false_eq_true, Bool.true_eq_false, Bool.and_true, Bool.true_and, Bool.and_false, Bool.false_and, TD.x_bnd, TD.x_then_ok, TD.x_then_exc, TD.x_ret, TD.x_opt, TD.x_noX, TD.x_noExc, TD.x_keep_ok, TD.x_keep_exc, TD.x_lentTo, TD.x_seq0, TD.x_seqc, TD.x_opM, TD.x_cmpM, TD.x_cmpB, TD.x_cmp2M, TD.x_cmp2B, TD.x_andB, TD.x_orB, TD.x_notB, TD.x_boolThen, TD.x_andM, TD.x_orM, TD.x_negM, TD.x_notM, TD.x_asBool, TD.x_ifM, TD.x_tup0, TD.x_tup1, TD.x_tup2, TD.x_tup3, TD.x_lst0, TD.x_lst1, TD.x_bf1, TD.x_bf2, TD.x_mt1, TD.x_slM, TD.x_intThen, TD.x_partM, TD.x_rvM, TD.x_ixM, TD.x_isiM, TD.x_call1, TD.x_call2, TD.x_call3, TD.x_fl_next, TD.x_fl_ret, TD.x_fl_brk, TD.x_blk0, TD.x_blkc, TD.x_exS, TD.x_retS, TD.x_raiS, TD.x_valR, TD.x_own0, TD.x_own1, TD.x_cpyT, TD.x_cpyL, TD.x_cpyR, TD.x_setS, TD.x_setL, TD.x_wrL0, TD.x_wrLc, TD.x_unpS, TD.x_ifD, TD.x_ifS, TD.x_forS, TD.x_seqI, TD.x_seqOfL, TD.x_seqOfT, TD.x_rng1T, TD.x_rng1, TD.x_enuL, TD.x_enuT, TD.x_enuI, TD.x_zipL, TD.x_zipT, TD.x_zipI, TD.x_rd0, TD.x_rdo0, TD.x_wv0, TD.x_wo0, TD.x_wn0, TD.x_ixv0, TD.x_lnv0, TD.x_lno0, TD.x_mtv0, TD.x_mto0, TD.x_lt0, TD.x_lp0, TD.x_pt0, TD.x_pp0, TD.x_cp0, TD.x_cq0, TD.x_rd1, TD.x_rdo1, TD.x_wv1, TD.x_wo1, TD.x_wn1, TD.x_ixv1, TD.x_lnv1, TD.x_lno1, TD.x_mtv1, TD.x_mto1, TD.x_lt1, TD.x_lp1, TD.x_pt1, TD.x_pp1, TD.x_cp1, TD.x_cq1, TD.x_rd2, TD.x_rdo2, TD.x_wv2, TD.x_wo2, TD.x_wn2, TD.x_ixv2, TD.x_lnv2, TD.x_lno2, TD.x_mtv2, TD.x_mto2, TD.x_lt2, TD.x_lp2, TD.x_pt2, TD.x_pp2, TD.x_cp2, TD.x_cq2, TD.x_rd3, TD.x_rdo3, TD.x_wv3, TD.x_wo3, TD.x_wn3, TD.x_ixv3, TD.x_lnv3, TD.x_lno3, TD.x_mtv3, TD.x_mto3, TD.x_lt3, TD.x_lp3, TD.x_pt3, TD.x_pp3, TD.x_cp3, TD.x_cq3, TD.x_rd4, TD.x_rdo4, TD.x_wv4, TD.x_wo4, TD.x_wn4, TD.x_ixv4, TD.x_lnv4, TD.x_lno4, TD.x_mtv4, TD.x_mto4, TD.x_lt4, TD.x_lp4, TD.x_pt4, TD.x_pp4, TD.x_cp4, TD.x_cq4, TD.x_rd5, TD.x_rdo5, TD.x_wv5, TD.x_wo5, TD.x_wn5, TD.x_ixv5, TD.x_lnv5, TD.x_lno5, TD.x_mtv5, TD.x_mto5, TD.x_lt5, TD.x_lp5, TD.x_pt5, TD.x_pp5, TD.x_cp5, TD.x_cq5, TD.x_rd6, TD.x_rdo6, TD.x_wv6, TD.x_wo6, TD.x_wn6, TD.x_ixv6, TD.x_lnv6, TD.x_lno6, TD.x_mtv6, TD.x_mto6, TD.x_lt6, TD.x_lp6, TD.x_pt6, TD.x_pp6, TD.x_cp6, TD.x_cq6, TD.x_rd7, TD.x_rdo7, TD.x_wv7, TD.x_wo7, TD.x_wn7, TD.x_ixv7, TD.x_lnv7, TD.x_lno7, TD.x_mtv7, TD.x_mto7, TD.x_lt7, TD.x_lp7, TD.x_pt7, TD.x_pp7, TD.x_cp7, TD.x_cq7, TD.x_rd8, TD.x_rdo8, TD.x_wv8, TD.x_wo8, TD.x_wn8, TD.x_ixv8, TD.x_lnv8, TD.x_lno8, TD.x_mtv8, TD.x_mto8, TD.x_lt8, TD.x_lp8, TD.x_pt8, TD.x_pp8, TD.x_cp8, TD.x_cq8, TD.x_rd9, TD.x_rdo9, TD.x_wv9, TD.x_wo9, TD.x_wn9, TD.x_ixv9, TD.x_lnv9, TD.x_lno9, TD.x_mtv9, TD.x_mto9, TD.x_lt9, TD.x_lp9, TD.x_pt9, TD.x_pp9, TD.x_cp9, TD.x_cq9, TD.x_rd10, TD.x_rdo10, TD.x_wv10, TD.x_wo10, TD.x_wn10, TD.x_ixv10, TD.x_lnv10, TD.x_lno10, TD.x_mtv10, TD.x_mto10, TD.x_lt10, TD.x_lp10, TD.x_pt10, TD.x_pp10, TD.x_cp10, TD.x_cq10, TD.x_rd11, TD.x_rdo11, TD.x_wv11, TD.x_wo11, TD.x_wn11, TD.x_ixv11, TD.x_lnv11, TD.x_lno11, TD.x_mtv11, TD.x_mto11, TD.x_lt11, TD.x_lp11, TD.x_pt11, TD.x_pp11, TD.x_cp11, TD.x_cq11, TD.x_rd12, TD.x_rdo12, TD.x_wv12, TD.x_wo12, TD.x_wn12, TD.x_ixv12, TD.x_lnv12, TD.x_lno12, TD.x_mtv12, TD.x_mto12, TD.x_lt12, TD.x_lp12, TD.x_pt12, TD.x_pp12, TD.x_cp12, TD.x_cq12, TD.x_rd13, TD.x_rdo13, TD.x_wv13, TD.x_wo13, TD.x_wn13, TD.x_ixv13, TD.x_lnv13, TD.x_lno13, TD.x_mtv13, TD.x_mto13, TD.x_lt13, TD.x_lp13, TD.x_pt13, TD.x_pp13, TD.x_cp13, TD.x_cq13, $args,*])
namespace TD
open PySem
def Res.back {α : Type} (r : Res α) (e : En) : Res α := match r with
  | .ok a e' => (match restore e e' with
    | some e'' => .ok a e''
    | none => .bad)
  | .exc c e' => .exc c e'
  | .bad => .bad
def backTo {α : Type} (a : α) : Option En → Res α
  | some e => .ok a e
  | none => .bad
theorem x_bor {α : Type} (m : M α) (e : En) : borrow m e = (m (e.map frz)).back e := rfl
theorem x_back {α : Type} (a : α) (e e' : En) : (Res.ok a e').back e = backTo a (restore e e') := rfl
theorem x_backE {α : Type} (c : Str) (e e' : En) : (Res.exc c e' : Res α).back e = .exc c e' := rfl
theorem x_backTo {α : Type} (a : α) (e : En) : backTo a (some e) = .ok a e := rfl
theorem x_frzv (d : D) : frz (.val d) = .val d := rfl
theorem x_frzo (d : List D) : frz (.own d) = .val (.list d) := rfl
theorem x_frzp (d : List D) : frz (.par d) = .par d := rfl
theorem x_frzn : frz .non = .non := rfl
theorem x_rs0 : restore [] [] = some [] := rfl
theorem x_rsv {t : Sl} {d : D} {r r' : En} : restore (.val d :: r) (t :: r') = (restore r r').map fun u => .val d :: u := by
  show (match backS (.val d) t, restore r r' with
    | some s, some t => some (s :: t)
    | _, _ => none) = _
  cases restore r r' <;> rfl
theorem x_rso {t : Sl} {ds : List D} {r r' : En} : restore (.own ds :: r) (t :: r') = (restore r r').map fun u => .own ds :: u := by
  show (match backS (.own ds) t, restore r r' with
    | some s, some t => some (s :: t)
    | _, _ => none) = _
  cases restore r r' <;> rfl
theorem x_rsn {t : Sl}  {r r' : En} : restore (.non :: r) (t :: r') = (restore r r').map fun u => .non :: u := by
  show (match backS (.non) t, restore r r' with
    | some s, some t => some (s :: t)
    | _, _ => none) = _
  cases restore r r' <;> rfl
theorem x_rsp {cs ds : List D} {r r' : En} (h : ds.all scal = true) : restore (.par cs :: r) (.par ds :: r') = (restore r r').map fun u => .par ds :: u := by
  show (match (if ds.all scal then some (Sl.par ds) else none), restore r r' with
    | some s, some t => some (s :: t)
    | _, _ => none) = _
  rw [if_pos h]
  cases restore r r' <;> rfl
theorem x_asn (i : Nat) (d : D) : asgP 3 (.nm i) d = wrSlot i (.val d) := rfl
theorem x_as2 (i j : Nat) (a b : D) (e : En) : asgP 3 (.tp [.nm i, .nm j]) (.tuple [a, b]) e = (wrSlot i (.val a) e).andThen fun _ => wrSlot j (.val b) := by
  show bnd (wrSlot i (.val a)) (fun _ => bnd (wrSlot j (.val b)) fun _ => ret ()) e = _
  unfold bnd Res.andThen
  cases wrSlot i (.val a) e with
  | ok a e1 => dsimp only; cases wrSlot j (.val b) e1 <;> rfl
  | exc c e1 => rfl
  | bad => rfl
theorem x_as3 (i j l : Nat) (a b c : D) (e : En) : asgP 3 (.tp [.nm i, .nm j, .nm l]) (.tuple [a, b, c]) e = (wrSlot i (.val a) e).andThen fun _ e1 => (wrSlot j (.val b) e1).andThen fun _ => wrSlot l (.val c) := by
  show bnd (wrSlot i (.val a)) (fun _ => bnd (wrSlot j (.val b)) fun _ => bnd (wrSlot l (.val c)) fun _ => ret ()) e = _
  unfold bnd Res.andThen
  cases wrSlot i (.val a) e with
  | ok a e1 =>
    dsimp only
    cases wrSlot j (.val b) e1 with
    | ok a e2 => dsimp only; cases wrSlot l (.val c) e2 <;> rfl
    | exc c e1 => rfl
    | bad => rfl
  | exc c e1 => rfl
  | bad => rfl
def appTo (i : Nat) (d : D) (env : En) : Res D := match lent i env with
  | some ds => if ds.length < lim then .ok .none (putL i (ds ++ [d]) env) else .bad
  | none => .bad
theorem x_app (A : M D) (i : Nat) (e : En) : appM A i e = (A e).andThen (appTo i) := rfl
def popAtTo (i : Nat) (x : D) (env : En) : Res D := match x, lent i env with
  | .int k, some ds => if 0 ≤ k ∧ k < ds.length then (match ds[k.toNat]? with
    | some d => .ok d (putL i (ds.eraseIdx k.toNat) env)
    | none => .bad) else .bad
  | _, _ => .bad
theorem x_popAt (A : M D) (i : Nat) (e : En) : popAtM A i e = (A e).andThen (popAtTo i) := rfl
def remTo (i : Nat) (x : D) (env : En) : Res D := match x, lent i env with
  | .str z, some ds => if ds.all isStrD then (match ds.findIdx? (isThis z) with
    | some j => .ok .none (putL i (ds.eraseIdx j) env)
    | none => .bad) else .bad
  | _, _ => .bad
theorem x_rem (A : M D) (i : Nat) (e : En) : remM A i e = (A e).andThen (remTo i) := rfl
def itmTo (j : Nat) (d y : D) (env' : En) : Res Fl := match lent j env', y with
  | some ds, .int k => if 0 ≤ k ∧ k < ds.length then .ok .next (putL j (ds.set k.toNat d) env') else .bad
  | _, _ => .bad
theorem x_ap0 {ds : List D} {d : D} {r : En} (h : ds.length < lim) : appTo 0 d (.own ds :: r) = .ok .none (.own (ds ++ [d]) :: r) := by
  show (if ds.length < lim then _ else _) = _
  rw [if_pos h]
  rfl
theorem x_po0 {ds : List D} {d : D} {r : En} : popM 0 (.own (ds ++ [d]) :: r) = .ok d (.own ds :: r) := by
  show (match (ds ++ [d]).getLast? with
    | some d' => Res.ok d' (.own (ds ++ [d]).dropLast :: r)
    | none => .bad) = _
  simp
theorem x_pa0 {ds : List D} {d : D} {k : Nat} {r : En} (h : ds[k]? = some d) : popAtTo 0 (.int (k : Nat)) (.own ds :: r) = .ok d (.own (ds.eraseIdx k) :: r) := by
  obtain ⟨h1, _⟩ := List.getElem?_eq_some_iff.mp h
  show (if 0 ≤ ((k : Nat) : Int) ∧ ((k : Nat) : Int) < ds.length then (match ds[((k : Nat) : Int).toNat]? with
    | some d => Res.ok d (.own (ds.eraseIdx ((k : Nat) : Int).toNat) :: r)
    | none => .bad) else .bad) = _
  rw [if_pos ⟨by omega, by omega⟩, Int.toNat_natCast, h]
theorem x_re0 {ds : List D} {z : Str} {j : Nat} {r : En} (h : ds.all isStrD = true) (h' : ds.findIdx? (isThis z) = some j) : remTo 0 (.str z) (.own ds :: r) = .ok .none (.own (ds.eraseIdx j) :: r) := by
  show (if ds.all isStrD then (match ds.findIdx? (isThis z) with
    | some j => Res.ok PyData.none (.own (ds.eraseIdx j) :: r)
    | none => .bad) else .bad) = _
  rw [if_pos h, h']
theorem x_ixp0 {ds : List D} {d : D} {r : En} (A : M D) (k : Nat) (h : ds[k]? = some d) : ixN 0 A (ret (.int (k : Nat))) (.par ds :: r) = .ok d (.par ds :: r) := by
  show (if 0 ≤ ((k : Nat) : Int) then (match ds[((k : Nat) : Int).toNat]? with
    | some d => Res.ok d (.par ds :: r)
    | none => .bad) else .bad) = _
  rw [if_pos (by omega), Int.toNat_natCast, h]
theorem x_ap1 {s0 : Sl} {ds : List D} {d : D} {r : En} (h : ds.length < lim) : appTo 1 d (s0 :: .own ds :: r) = .ok .none (s0 :: .own (ds ++ [d]) :: r) := by
  show (if ds.length < lim then _ else _) = _
  rw [if_pos h]
  rfl
theorem x_po1 {s0 : Sl} {ds : List D} {d : D} {r : En} : popM 1 (s0 :: .own (ds ++ [d]) :: r) = .ok d (s0 :: .own ds :: r) := by
  show (match (ds ++ [d]).getLast? with
    | some d' => Res.ok d' (s0 :: .own (ds ++ [d]).dropLast :: r)
    | none => .bad) = _
  simp
theorem x_pa1 {s0 : Sl} {ds : List D} {d : D} {k : Nat} {r : En} (h : ds[k]? = some d) : popAtTo 1 (.int (k : Nat)) (s0 :: .own ds :: r) = .ok d (s0 :: .own (ds.eraseIdx k) :: r) := by
  obtain ⟨h1, _⟩ := List.getElem?_eq_some_iff.mp h
  show (if 0 ≤ ((k : Nat) : Int) ∧ ((k : Nat) : Int) < ds.length then (match ds[((k : Nat) : Int).toNat]? with
    | some d => Res.ok d (s0 :: .own (ds.eraseIdx ((k : Nat) : Int).toNat) :: r)
    | none => .bad) else .bad) = _
  rw [if_pos ⟨by omega, by omega⟩, Int.toNat_natCast, h]
theorem x_re1 {s0 : Sl} {ds : List D} {z : Str} {j : Nat} {r : En} (h : ds.all isStrD = true) (h' : ds.findIdx? (isThis z) = some j) : remTo 1 (.str z) (s0 :: .own ds :: r) = .ok .none (s0 :: .own (ds.eraseIdx j) :: r) := by
  show (if ds.all isStrD then (match ds.findIdx? (isThis z) with
    | some j => Res.ok PyData.none (s0 :: .own (ds.eraseIdx j) :: r)
    | none => .bad) else .bad) = _
  rw [if_pos h, h']
theorem x_ixp1 {s0 : Sl} {ds : List D} {d : D} {r : En} (A : M D) (k : Nat) (h : ds[k]? = some d) : ixN 1 A (ret (.int (k : Nat))) (s0 :: .par ds :: r) = .ok d (s0 :: .par ds :: r) := by
  show (if 0 ≤ ((k : Nat) : Int) then (match ds[((k : Nat) : Int).toNat]? with
    | some d => Res.ok d (s0 :: .par ds :: r)
    | none => .bad) else .bad) = _
  rw [if_pos (by omega), Int.toNat_natCast, h]
theorem x_ap2 {s0 s1 : Sl} {ds : List D} {d : D} {r : En} (h : ds.length < lim) : appTo 2 d (s0 :: s1 :: .own ds :: r) = .ok .none (s0 :: s1 :: .own (ds ++ [d]) :: r) := by
  show (if ds.length < lim then _ else _) = _
  rw [if_pos h]
  rfl
theorem x_po2 {s0 s1 : Sl} {ds : List D} {d : D} {r : En} : popM 2 (s0 :: s1 :: .own (ds ++ [d]) :: r) = .ok d (s0 :: s1 :: .own ds :: r) := by
  show (match (ds ++ [d]).getLast? with
    | some d' => Res.ok d' (s0 :: s1 :: .own (ds ++ [d]).dropLast :: r)
    | none => .bad) = _
  simp
theorem x_pa2 {s0 s1 : Sl} {ds : List D} {d : D} {k : Nat} {r : En} (h : ds[k]? = some d) : popAtTo 2 (.int (k : Nat)) (s0 :: s1 :: .own ds :: r) = .ok d (s0 :: s1 :: .own (ds.eraseIdx k) :: r) := by
  obtain ⟨h1, _⟩ := List.getElem?_eq_some_iff.mp h
  show (if 0 ≤ ((k : Nat) : Int) ∧ ((k : Nat) : Int) < ds.length then (match ds[((k : Nat) : Int).toNat]? with
    | some d => Res.ok d (s0 :: s1 :: .own (ds.eraseIdx ((k : Nat) : Int).toNat) :: r)
    | none => .bad) else .bad) = _
  rw [if_pos ⟨by omega, by omega⟩, Int.toNat_natCast, h]
theorem x_re2 {s0 s1 : Sl} {ds : List D} {z : Str} {j : Nat} {r : En} (h : ds.all isStrD = true) (h' : ds.findIdx? (isThis z) = some j) : remTo 2 (.str z) (s0 :: s1 :: .own ds :: r) = .ok .none (s0 :: s1 :: .own (ds.eraseIdx j) :: r) := by
  show (if ds.all isStrD then (match ds.findIdx? (isThis z) with
    | some j => Res.ok PyData.none (s0 :: s1 :: .own (ds.eraseIdx j) :: r)
    | none => .bad) else .bad) = _
  rw [if_pos h, h']
theorem x_ixp2 {s0 s1 : Sl} {ds : List D} {d : D} {r : En} (A : M D) (k : Nat) (h : ds[k]? = some d) : ixN 2 A (ret (.int (k : Nat))) (s0 :: s1 :: .par ds :: r) = .ok d (s0 :: s1 :: .par ds :: r) := by
  show (if 0 ≤ ((k : Nat) : Int) then (match ds[((k : Nat) : Int).toNat]? with
    | some d => Res.ok d (s0 :: s1 :: .par ds :: r)
    | none => .bad) else .bad) = _
  rw [if_pos (by omega), Int.toNat_natCast, h]
theorem x_ap3 {s0 s1 s2 : Sl} {ds : List D} {d : D} {r : En} (h : ds.length < lim) : appTo 3 d (s0 :: s1 :: s2 :: .own ds :: r) = .ok .none (s0 :: s1 :: s2 :: .own (ds ++ [d]) :: r) := by
  show (if ds.length < lim then _ else _) = _
  rw [if_pos h]
  rfl
theorem x_po3 {s0 s1 s2 : Sl} {ds : List D} {d : D} {r : En} : popM 3 (s0 :: s1 :: s2 :: .own (ds ++ [d]) :: r) = .ok d (s0 :: s1 :: s2 :: .own ds :: r) := by
  show (match (ds ++ [d]).getLast? with
    | some d' => Res.ok d' (s0 :: s1 :: s2 :: .own (ds ++ [d]).dropLast :: r)
    | none => .bad) = _
  simp
theorem x_pa3 {s0 s1 s2 : Sl} {ds : List D} {d : D} {k : Nat} {r : En} (h : ds[k]? = some d) : popAtTo 3 (.int (k : Nat)) (s0 :: s1 :: s2 :: .own ds :: r) = .ok d (s0 :: s1 :: s2 :: .own (ds.eraseIdx k) :: r) := by
  obtain ⟨h1, _⟩ := List.getElem?_eq_some_iff.mp h
  show (if 0 ≤ ((k : Nat) : Int) ∧ ((k : Nat) : Int) < ds.length then (match ds[((k : Nat) : Int).toNat]? with
    | some d => Res.ok d (s0 :: s1 :: s2 :: .own (ds.eraseIdx ((k : Nat) : Int).toNat) :: r)
    | none => .bad) else .bad) = _
  rw [if_pos ⟨by omega, by omega⟩, Int.toNat_natCast, h]
theorem x_re3 {s0 s1 s2 : Sl} {ds : List D} {z : Str} {j : Nat} {r : En} (h : ds.all isStrD = true) (h' : ds.findIdx? (isThis z) = some j) : remTo 3 (.str z) (s0 :: s1 :: s2 :: .own ds :: r) = .ok .none (s0 :: s1 :: s2 :: .own (ds.eraseIdx j) :: r) := by
  show (if ds.all isStrD then (match ds.findIdx? (isThis z) with
    | some j => Res.ok PyData.none (s0 :: s1 :: s2 :: .own (ds.eraseIdx j) :: r)
    | none => .bad) else .bad) = _
  rw [if_pos h, h']
theorem x_ixp3 {s0 s1 s2 : Sl} {ds : List D} {d : D} {r : En} (A : M D) (k : Nat) (h : ds[k]? = some d) : ixN 3 A (ret (.int (k : Nat))) (s0 :: s1 :: s2 :: .par ds :: r) = .ok d (s0 :: s1 :: s2 :: .par ds :: r) := by
  show (if 0 ≤ ((k : Nat) : Int) then (match ds[((k : Nat) : Int).toNat]? with
    | some d => Res.ok d (s0 :: s1 :: s2 :: .par ds :: r)
    | none => .bad) else .bad) = _
  rw [if_pos (by omega), Int.toNat_natCast, h]
theorem x_ap4 {s0 s1 s2 s3 : Sl} {ds : List D} {d : D} {r : En} (h : ds.length < lim) : appTo 4 d (s0 :: s1 :: s2 :: s3 :: .own ds :: r) = .ok .none (s0 :: s1 :: s2 :: s3 :: .own (ds ++ [d]) :: r) := by
  show (if ds.length < lim then _ else _) = _
  rw [if_pos h]
  rfl
theorem x_po4 {s0 s1 s2 s3 : Sl} {ds : List D} {d : D} {r : En} : popM 4 (s0 :: s1 :: s2 :: s3 :: .own (ds ++ [d]) :: r) = .ok d (s0 :: s1 :: s2 :: s3 :: .own ds :: r) := by
  show (match (ds ++ [d]).getLast? with
    | some d' => Res.ok d' (s0 :: s1 :: s2 :: s3 :: .own (ds ++ [d]).dropLast :: r)
    | none => .bad) = _
  simp
theorem x_pa4 {s0 s1 s2 s3 : Sl} {ds : List D} {d : D} {k : Nat} {r : En} (h : ds[k]? = some d) : popAtTo 4 (.int (k : Nat)) (s0 :: s1 :: s2 :: s3 :: .own ds :: r) = .ok d (s0 :: s1 :: s2 :: s3 :: .own (ds.eraseIdx k) :: r) := by
  obtain ⟨h1, _⟩ := List.getElem?_eq_some_iff.mp h
  show (if 0 ≤ ((k : Nat) : Int) ∧ ((k : Nat) : Int) < ds.length then (match ds[((k : Nat) : Int).toNat]? with
    | some d => Res.ok d (s0 :: s1 :: s2 :: s3 :: .own (ds.eraseIdx ((k : Nat) : Int).toNat) :: r)
    | none => .bad) else .bad) = _
  rw [if_pos ⟨by omega, by omega⟩, Int.toNat_natCast, h]
theorem x_re4 {s0 s1 s2 s3 : Sl} {ds : List D} {z : Str} {j : Nat} {r : En} (h : ds.all isStrD = true) (h' : ds.findIdx? (isThis z) = some j) : remTo 4 (.str z) (s0 :: s1 :: s2 :: s3 :: .own ds :: r) = .ok .none (s0 :: s1 :: s2 :: s3 :: .own (ds.eraseIdx j) :: r) := by
  show (if ds.all isStrD then (match ds.findIdx? (isThis z) with
    | some j => Res.ok PyData.none (s0 :: s1 :: s2 :: s3 :: .own (ds.eraseIdx j) :: r)
    | none => .bad) else .bad) = _
  rw [if_pos h, h']
theorem x_ixp4 {s0 s1 s2 s3 : Sl} {ds : List D} {d : D} {r : En} (A : M D) (k : Nat) (h : ds[k]? = some d) : ixN 4 A (ret (.int (k : Nat))) (s0 :: s1 :: s2 :: s3 :: .par ds :: r) = .ok d (s0 :: s1 :: s2 :: s3 :: .par ds :: r) := by
  show (if 0 ≤ ((k : Nat) : Int) then (match ds[((k : Nat) : Int).toNat]? with
    | some d => Res.ok d (s0 :: s1 :: s2 :: s3 :: .par ds :: r)
    | none => .bad) else .bad) = _
  rw [if_pos (by omega), Int.toNat_natCast, h]
theorem x_ap5 {s0 s1 s2 s3 s4 : Sl} {ds : List D} {d : D} {r : En} (h : ds.length < lim) : appTo 5 d (s0 :: s1 :: s2 :: s3 :: s4 :: .own ds :: r) = .ok .none (s0 :: s1 :: s2 :: s3 :: s4 :: .own (ds ++ [d]) :: r) := by
  show (if ds.length < lim then _ else _) = _
  rw [if_pos h]
  rfl
theorem x_po5 {s0 s1 s2 s3 s4 : Sl} {ds : List D} {d : D} {r : En} : popM 5 (s0 :: s1 :: s2 :: s3 :: s4 :: .own (ds ++ [d]) :: r) = .ok d (s0 :: s1 :: s2 :: s3 :: s4 :: .own ds :: r) := by
  show (match (ds ++ [d]).getLast? with
    | some d' => Res.ok d' (s0 :: s1 :: s2 :: s3 :: s4 :: .own (ds ++ [d]).dropLast :: r)
    | none => .bad) = _
  simp
theorem x_pa5 {s0 s1 s2 s3 s4 : Sl} {ds : List D} {d : D} {k : Nat} {r : En} (h : ds[k]? = some d) : popAtTo 5 (.int (k : Nat)) (s0 :: s1 :: s2 :: s3 :: s4 :: .own ds :: r) = .ok d (s0 :: s1 :: s2 :: s3 :: s4 :: .own (ds.eraseIdx k) :: r) := by
  obtain ⟨h1, _⟩ := List.getElem?_eq_some_iff.mp h
  show (if 0 ≤ ((k : Nat) : Int) ∧ ((k : Nat) : Int) < ds.length then (match ds[((k : Nat) : Int).toNat]? with
    | some d => Res.ok d (s0 :: s1 :: s2 :: s3 :: s4 :: .own (ds.eraseIdx ((k : Nat) : Int).toNat) :: r)
    | none => .bad) else .bad) = _
  rw [if_pos ⟨by omega, by omega⟩, Int.toNat_natCast, h]
theorem x_re5 {s0 s1 s2 s3 s4 : Sl} {ds : List D} {z : Str} {j : Nat} {r : En} (h : ds.all isStrD = true) (h' : ds.findIdx? (isThis z) = some j) : remTo 5 (.str z) (s0 :: s1 :: s2 :: s3 :: s4 :: .own ds :: r) = .ok .none (s0 :: s1 :: s2 :: s3 :: s4 :: .own (ds.eraseIdx j) :: r) := by
  show (if ds.all isStrD then (match ds.findIdx? (isThis z) with
    | some j => Res.ok PyData.none (s0 :: s1 :: s2 :: s3 :: s4 :: .own (ds.eraseIdx j) :: r)
    | none => .bad) else .bad) = _
  rw [if_pos h, h']
theorem x_ixp5 {s0 s1 s2 s3 s4 : Sl} {ds : List D} {d : D} {r : En} (A : M D) (k : Nat) (h : ds[k]? = some d) : ixN 5 A (ret (.int (k : Nat))) (s0 :: s1 :: s2 :: s3 :: s4 :: .par ds :: r) = .ok d (s0 :: s1 :: s2 :: s3 :: s4 :: .par ds :: r) := by
  show (if 0 ≤ ((k : Nat) : Int) then (match ds[((k : Nat) : Int).toNat]? with
    | some d => Res.ok d (s0 :: s1 :: s2 :: s3 :: s4 :: .par ds :: r)
    | none => .bad) else .bad) = _
  rw [if_pos (by omega), Int.toNat_natCast, h]
theorem x_ap6 {s0 s1 s2 s3 s4 s5 : Sl} {ds : List D} {d : D} {r : En} (h : ds.length < lim) : appTo 6 d (s0 :: s1 :: s2 :: s3 :: s4 :: s5 :: .own ds :: r) = .ok .none (s0 :: s1 :: s2 :: s3 :: s4 :: s5 :: .own (ds ++ [d]) :: r) := by
  show (if ds.length < lim then _ else _) = _
  rw [if_pos h]
  rfl
theorem x_po6 {s0 s1 s2 s3 s4 s5 : Sl} {ds : List D} {d : D} {r : En} : popM 6 (s0 :: s1 :: s2 :: s3 :: s4 :: s5 :: .own (ds ++ [d]) :: r) = .ok d (s0 :: s1 :: s2 :: s3 :: s4 :: s5 :: .own ds :: r) := by
  show (match (ds ++ [d]).getLast? with
    | some d' => Res.ok d' (s0 :: s1 :: s2 :: s3 :: s4 :: s5 :: .own (ds ++ [d]).dropLast :: r)
    | none => .bad) = _
  simp
theorem x_pa6 {s0 s1 s2 s3 s4 s5 : Sl} {ds : List D} {d : D} {k : Nat} {r : En} (h : ds[k]? = some d) : popAtTo 6 (.int (k : Nat)) (s0 :: s1 :: s2 :: s3 :: s4 :: s5 :: .own ds :: r) = .ok d (s0 :: s1 :: s2 :: s3 :: s4 :: s5 :: .own (ds.eraseIdx k) :: r) := by
  obtain ⟨h1, _⟩ := List.getElem?_eq_some_iff.mp h
  show (if 0 ≤ ((k : Nat) : Int) ∧ ((k : Nat) : Int) < ds.length then (match ds[((k : Nat) : Int).toNat]? with
    | some d => Res.ok d (s0 :: s1 :: s2 :: s3 :: s4 :: s5 :: .own (ds.eraseIdx ((k : Nat) : Int).toNat) :: r)
    | none => .bad) else .bad) = _
  rw [if_pos ⟨by omega, by omega⟩, Int.toNat_natCast, h]
theorem x_re6 {s0 s1 s2 s3 s4 s5 : Sl} {ds : List D} {z : Str} {j : Nat} {r : En} (h : ds.all isStrD = true) (h' : ds.findIdx? (isThis z) = some j) : remTo 6 (.str z) (s0 :: s1 :: s2 :: s3 :: s4 :: s5 :: .own ds :: r) = .ok .none (s0 :: s1 :: s2 :: s3 :: s4 :: s5 :: .own (ds.eraseIdx j) :: r) := by
  show (if ds.all isStrD then (match ds.findIdx? (isThis z) with
    | some j => Res.ok PyData.none (s0 :: s1 :: s2 :: s3 :: s4 :: s5 :: .own (ds.eraseIdx j) :: r)
    | none => .bad) else .bad) = _
  rw [if_pos h, h']
theorem x_ixp6 {s0 s1 s2 s3 s4 s5 : Sl} {ds : List D} {d : D} {r : En} (A : M D) (k : Nat) (h : ds[k]? = some d) : ixN 6 A (ret (.int (k : Nat))) (s0 :: s1 :: s2 :: s3 :: s4 :: s5 :: .par ds :: r) = .ok d (s0 :: s1 :: s2 :: s3 :: s4 :: s5 :: .par ds :: r) := by
  show (if 0 ≤ ((k : Nat) : Int) then (match ds[((k : Nat) : Int).toNat]? with
    | some d => Res.ok d (s0 :: s1 :: s2 :: s3 :: s4 :: s5 :: .par ds :: r)
    | none => .bad) else .bad) = _
  rw [if_pos (by omega), Int.toNat_natCast, h]
theorem x_ap7 {s0 s1 s2 s3 s4 s5 s6 : Sl} {ds : List D} {d : D} {r : En} (h : ds.length < lim) : appTo 7 d (s0 :: s1 :: s2 :: s3 :: s4 :: s5 :: s6 :: .own ds :: r) = .ok .none (s0 :: s1 :: s2 :: s3 :: s4 :: s5 :: s6 :: .own (ds ++ [d]) :: r) := by
  show (if ds.length < lim then _ else _) = _
  rw [if_pos h]
  rfl
theorem x_po7 {s0 s1 s2 s3 s4 s5 s6 : Sl} {ds : List D} {d : D} {r : En} : popM 7 (s0 :: s1 :: s2 :: s3 :: s4 :: s5 :: s6 :: .own (ds ++ [d]) :: r) = .ok d (s0 :: s1 :: s2 :: s3 :: s4 :: s5 :: s6 :: .own ds :: r) := by
  show (match (ds ++ [d]).getLast? with
    | some d' => Res.ok d' (s0 :: s1 :: s2 :: s3 :: s4 :: s5 :: s6 :: .own (ds ++ [d]).dropLast :: r)
    | none => .bad) = _
  simp
theorem x_pa7 {s0 s1 s2 s3 s4 s5 s6 : Sl} {ds : List D} {d : D} {k : Nat} {r : En} (h : ds[k]? = some d) : popAtTo 7 (.int (k : Nat)) (s0 :: s1 :: s2 :: s3 :: s4 :: s5 :: s6 :: .own ds :: r) = .ok d (s0 :: s1 :: s2 :: s3 :: s4 :: s5 :: s6 :: .own (ds.eraseIdx k) :: r) := by
  obtain ⟨h1, _⟩ := List.getElem?_eq_some_iff.mp h
  show (if 0 ≤ ((k : Nat) : Int) ∧ ((k : Nat) : Int) < ds.length then (match ds[((k : Nat) : Int).toNat]? with
    | some d => Res.ok d (s0 :: s1 :: s2 :: s3 :: s4 :: s5 :: s6 :: .own (ds.eraseIdx ((k : Nat) : Int).toNat) :: r)
    | none => .bad) else .bad) = _
  rw [if_pos ⟨by omega, by omega⟩, Int.toNat_natCast, h]
theorem x_re7 {s0 s1 s2 s3 s4 s5 s6 : Sl} {ds : List D} {z : Str} {j : Nat} {r : En} (h : ds.all isStrD = true) (h' : ds.findIdx? (isThis z) = some j) : remTo 7 (.str z) (s0 :: s1 :: s2 :: s3 :: s4 :: s5 :: s6 :: .own ds :: r) = .ok .none (s0 :: s1 :: s2 :: s3 :: s4 :: s5 :: s6 :: .own (ds.eraseIdx j) :: r) := by
  show (if ds.all isStrD then (match ds.findIdx? (isThis z) with
    | some j => Res.ok PyData.none (s0 :: s1 :: s2 :: s3 :: s4 :: s5 :: s6 :: .own (ds.eraseIdx j) :: r)
    | none => .bad) else .bad) = _
  rw [if_pos h, h']
theorem x_ixp7 {s0 s1 s2 s3 s4 s5 s6 : Sl} {ds : List D} {d : D} {r : En} (A : M D) (k : Nat) (h : ds[k]? = some d) : ixN 7 A (ret (.int (k : Nat))) (s0 :: s1 :: s2 :: s3 :: s4 :: s5 :: s6 :: .par ds :: r) = .ok d (s0 :: s1 :: s2 :: s3 :: s4 :: s5 :: s6 :: .par ds :: r) := by
  show (if 0 ≤ ((k : Nat) : Int) then (match ds[((k : Nat) : Int).toNat]? with
    | some d => Res.ok d (s0 :: s1 :: s2 :: s3 :: s4 :: s5 :: s6 :: .par ds :: r)
    | none => .bad) else .bad) = _
  rw [if_pos (by omega), Int.toNat_natCast, h]
theorem x_ap8 {s0 s1 s2 s3 s4 s5 s6 s7 : Sl} {ds : List D} {d : D} {r : En} (h : ds.length < lim) : appTo 8 d (s0 :: s1 :: s2 :: s3 :: s4 :: s5 :: s6 :: s7 :: .own ds :: r) = .ok .none (s0 :: s1 :: s2 :: s3 :: s4 :: s5 :: s6 :: s7 :: .own (ds ++ [d]) :: r) := by
  show (if ds.length < lim then _ else _) = _
  rw [if_pos h]
  rfl
theorem x_po8 {s0 s1 s2 s3 s4 s5 s6 s7 : Sl} {ds : List D} {d : D} {r : En} : popM 8 (s0 :: s1 :: s2 :: s3 :: s4 :: s5 :: s6 :: s7 :: .own (ds ++ [d]) :: r) = .ok d (s0 :: s1 :: s2 :: s3 :: s4 :: s5 :: s6 :: s7 :: .own ds :: r) := by
  show (match (ds ++ [d]).getLast? with
    | some d' => Res.ok d' (s0 :: s1 :: s2 :: s3 :: s4 :: s5 :: s6 :: s7 :: .own (ds ++ [d]).dropLast :: r)
    | none => .bad) = _
  simp
theorem x_pa8 {s0 s1 s2 s3 s4 s5 s6 s7 : Sl} {ds : List D} {d : D} {k : Nat} {r : En} (h : ds[k]? = some d) : popAtTo 8 (.int (k : Nat)) (s0 :: s1 :: s2 :: s3 :: s4 :: s5 :: s6 :: s7 :: .own ds :: r) = .ok d (s0 :: s1 :: s2 :: s3 :: s4 :: s5 :: s6 :: s7 :: .own (ds.eraseIdx k) :: r) := by
  obtain ⟨h1, _⟩ := List.getElem?_eq_some_iff.mp h
  show (if 0 ≤ ((k : Nat) : Int) ∧ ((k : Nat) : Int) < ds.length then (match ds[((k : Nat) : Int).toNat]? with
    | some d => Res.ok d (s0 :: s1 :: s2 :: s3 :: s4 :: s5 :: s6 :: s7 :: .own (ds.eraseIdx ((k : Nat) : Int).toNat) :: r)
    | none => .bad) else .bad) = _
  rw [if_pos ⟨by omega, by omega⟩, Int.toNat_natCast, h]
theorem x_re8 {s0 s1 s2 s3 s4 s5 s6 s7 : Sl} {ds : List D} {z : Str} {j : Nat} {r : En} (h : ds.all isStrD = true) (h' : ds.findIdx? (isThis z) = some j) : remTo 8 (.str z) (s0 :: s1 :: s2 :: s3 :: s4 :: s5 :: s6 :: s7 :: .own ds :: r) = .ok .none (s0 :: s1 :: s2 :: s3 :: s4 :: s5 :: s6 :: s7 :: .own (ds.eraseIdx j) :: r) := by
  show (if ds.all isStrD then (match ds.findIdx? (isThis z) with
    | some j => Res.ok PyData.none (s0 :: s1 :: s2 :: s3 :: s4 :: s5 :: s6 :: s7 :: .own (ds.eraseIdx j) :: r)
    | none => .bad) else .bad) = _
  rw [if_pos h, h']
theorem x_ixp8 {s0 s1 s2 s3 s4 s5 s6 s7 : Sl} {ds : List D} {d : D} {r : En} (A : M D) (k : Nat) (h : ds[k]? = some d) : ixN 8 A (ret (.int (k : Nat))) (s0 :: s1 :: s2 :: s3 :: s4 :: s5 :: s6 :: s7 :: .par ds :: r) = .ok d (s0 :: s1 :: s2 :: s3 :: s4 :: s5 :: s6 :: s7 :: .par ds :: r) := by
  show (if 0 ≤ ((k : Nat) : Int) then (match ds[((k : Nat) : Int).toNat]? with
    | some d => Res.ok d (s0 :: s1 :: s2 :: s3 :: s4 :: s5 :: s6 :: s7 :: .par ds :: r)
    | none => .bad) else .bad) = _
  rw [if_pos (by omega), Int.toNat_natCast, h]
theorem x_ap9 {s0 s1 s2 s3 s4 s5 s6 s7 s8 : Sl} {ds : List D} {d : D} {r : En} (h : ds.length < lim) : appTo 9 d (s0 :: s1 :: s2 :: s3 :: s4 :: s5 :: s6 :: s7 :: s8 :: .own ds :: r) = .ok .none (s0 :: s1 :: s2 :: s3 :: s4 :: s5 :: s6 :: s7 :: s8 :: .own (ds ++ [d]) :: r) := by
  show (if ds.length < lim then _ else _) = _
  rw [if_pos h]
  rfl
theorem x_po9 {s0 s1 s2 s3 s4 s5 s6 s7 s8 : Sl} {ds : List D} {d : D} {r : En} : popM 9 (s0 :: s1 :: s2 :: s3 :: s4 :: s5 :: s6 :: s7 :: s8 :: .own (ds ++ [d]) :: r) = .ok d (s0 :: s1 :: s2 :: s3 :: s4 :: s5 :: s6 :: s7 :: s8 :: .own ds :: r) := by
  show (match (ds ++ [d]).getLast? with
    | some d' => Res.ok d' (s0 :: s1 :: s2 :: s3 :: s4 :: s5 :: s6 :: s7 :: s8 :: .own (ds ++ [d]).dropLast :: r)
    | none => .bad) = _
  simp
theorem x_pa9 {s0 s1 s2 s3 s4 s5 s6 s7 s8 : Sl} {ds : List D} {d : D} {k : Nat} {r : En} (h : ds[k]? = some d) : popAtTo 9 (.int (k : Nat)) (s0 :: s1 :: s2 :: s3 :: s4 :: s5 :: s6 :: s7 :: s8 :: .own ds :: r) = .ok d (s0 :: s1 :: s2 :: s3 :: s4 :: s5 :: s6 :: s7 :: s8 :: .own (ds.eraseIdx k) :: r) := by
  obtain ⟨h1, _⟩ := List.getElem?_eq_some_iff.mp h
  show (if 0 ≤ ((k : Nat) : Int) ∧ ((k : Nat) : Int) < ds.length then (match ds[((k : Nat) : Int).toNat]? with
    | some d => Res.ok d (s0 :: s1 :: s2 :: s3 :: s4 :: s5 :: s6 :: s7 :: s8 :: .own (ds.eraseIdx ((k : Nat) : Int).toNat) :: r)
    | none => .bad) else .bad) = _
  rw [if_pos ⟨by omega, by omega⟩, Int.toNat_natCast, h]
theorem x_re9 {s0 s1 s2 s3 s4 s5 s6 s7 s8 : Sl} {ds : List D} {z : Str} {j : Nat} {r : En} (h : ds.all isStrD = true) (h' : ds.findIdx? (isThis z) = some j) : remTo 9 (.str z) (s0 :: s1 :: s2 :: s3 :: s4 :: s5 :: s6 :: s7 :: s8 :: .own ds :: r) = .ok .none (s0 :: s1 :: s2 :: s3 :: s4 :: s5 :: s6 :: s7 :: s8 :: .own (ds.eraseIdx j) :: r) := by
  show (if ds.all isStrD then (match ds.findIdx? (isThis z) with
    | some j => Res.ok PyData.none (s0 :: s1 :: s2 :: s3 :: s4 :: s5 :: s6 :: s7 :: s8 :: .own (ds.eraseIdx j) :: r)
    | none => .bad) else .bad) = _
  rw [if_pos h, h']
theorem x_ixp9 {s0 s1 s2 s3 s4 s5 s6 s7 s8 : Sl} {ds : List D} {d : D} {r : En} (A : M D) (k : Nat) (h : ds[k]? = some d) : ixN 9 A (ret (.int (k : Nat))) (s0 :: s1 :: s2 :: s3 :: s4 :: s5 :: s6 :: s7 :: s8 :: .par ds :: r) = .ok d (s0 :: s1 :: s2 :: s3 :: s4 :: s5 :: s6 :: s7 :: s8 :: .par ds :: r) := by
  show (if 0 ≤ ((k : Nat) : Int) then (match ds[((k : Nat) : Int).toNat]? with
    | some d => Res.ok d (s0 :: s1 :: s2 :: s3 :: s4 :: s5 :: s6 :: s7 :: s8 :: .par ds :: r)
    | none => .bad) else .bad) = _
  rw [if_pos (by omega), Int.toNat_natCast, h]
theorem x_ap10 {s0 s1 s2 s3 s4 s5 s6 s7 s8 s9 : Sl} {ds : List D} {d : D} {r : En} (h : ds.length < lim) : appTo 10 d (s0 :: s1 :: s2 :: s3 :: s4 :: s5 :: s6 :: s7 :: s8 :: s9 :: .own ds :: r) = .ok .none (s0 :: s1 :: s2 :: s3 :: s4 :: s5 :: s6 :: s7 :: s8 :: s9 :: .own (ds ++ [d]) :: r) := by
  show (if ds.length < lim then _ else _) = _
  rw [if_pos h]
  rfl
theorem x_po10 {s0 s1 s2 s3 s4 s5 s6 s7 s8 s9 : Sl} {ds : List D} {d : D} {r : En} : popM 10 (s0 :: s1 :: s2 :: s3 :: s4 :: s5 :: s6 :: s7 :: s8 :: s9 :: .own (ds ++ [d]) :: r) = .ok d (s0 :: s1 :: s2 :: s3 :: s4 :: s5 :: s6 :: s7 :: s8 :: s9 :: .own ds :: r) := by
  show (match (ds ++ [d]).getLast? with
    | some d' => Res.ok d' (s0 :: s1 :: s2 :: s3 :: s4 :: s5 :: s6 :: s7 :: s8 :: s9 :: .own (ds ++ [d]).dropLast :: r)
    | none => .bad) = _
  simp
theorem x_pa10 {s0 s1 s2 s3 s4 s5 s6 s7 s8 s9 : Sl} {ds : List D} {d : D} {k : Nat} {r : En} (h : ds[k]? = some d) : popAtTo 10 (.int (k : Nat)) (s0 :: s1 :: s2 :: s3 :: s4 :: s5 :: s6 :: s7 :: s8 :: s9 :: .own ds :: r) = .ok d (s0 :: s1 :: s2 :: s3 :: s4 :: s5 :: s6 :: s7 :: s8 :: s9 :: .own (ds.eraseIdx k) :: r) := by
  obtain ⟨h1, _⟩ := List.getElem?_eq_some_iff.mp h
  show (if 0 ≤ ((k : Nat) : Int) ∧ ((k : Nat) : Int) < ds.length then (match ds[((k : Nat) : Int).toNat]? with
    | some d => Res.ok d (s0 :: s1 :: s2 :: s3 :: s4 :: s5 :: s6 :: s7 :: s8 :: s9 :: .own (ds.eraseIdx ((k : Nat) : Int).toNat) :: r)
    | none => .bad) else .bad) = _
  rw [if_pos ⟨by omega, by omega⟩, Int.toNat_natCast, h]
theorem x_re10 {s0 s1 s2 s3 s4 s5 s6 s7 s8 s9 : Sl} {ds : List D} {z : Str} {j : Nat} {r : En} (h : ds.all isStrD = true) (h' : ds.findIdx? (isThis z) = some j) : remTo 10 (.str z) (s0 :: s1 :: s2 :: s3 :: s4 :: s5 :: s6 :: s7 :: s8 :: s9 :: .own ds :: r) = .ok .none (s0 :: s1 :: s2 :: s3 :: s4 :: s5 :: s6 :: s7 :: s8 :: s9 :: .own (ds.eraseIdx j) :: r) := by
  show (if ds.all isStrD then (match ds.findIdx? (isThis z) with
    | some j => Res.ok PyData.none (s0 :: s1 :: s2 :: s3 :: s4 :: s5 :: s6 :: s7 :: s8 :: s9 :: .own (ds.eraseIdx j) :: r)
    | none => .bad) else .bad) = _
  rw [if_pos h, h']
theorem x_ixp10 {s0 s1 s2 s3 s4 s5 s6 s7 s8 s9 : Sl} {ds : List D} {d : D} {r : En} (A : M D) (k : Nat) (h : ds[k]? = some d) : ixN 10 A (ret (.int (k : Nat))) (s0 :: s1 :: s2 :: s3 :: s4 :: s5 :: s6 :: s7 :: s8 :: s9 :: .par ds :: r) = .ok d (s0 :: s1 :: s2 :: s3 :: s4 :: s5 :: s6 :: s7 :: s8 :: s9 :: .par ds :: r) := by
  show (if 0 ≤ ((k : Nat) : Int) then (match ds[((k : Nat) : Int).toNat]? with
    | some d => Res.ok d (s0 :: s1 :: s2 :: s3 :: s4 :: s5 :: s6 :: s7 :: s8 :: s9 :: .par ds :: r)
    | none => .bad) else .bad) = _
  rw [if_pos (by omega), Int.toNat_natCast, h]
theorem x_ap11 {s0 s1 s2 s3 s4 s5 s6 s7 s8 s9 s10 : Sl} {ds : List D} {d : D} {r : En} (h : ds.length < lim) : appTo 11 d (s0 :: s1 :: s2 :: s3 :: s4 :: s5 :: s6 :: s7 :: s8 :: s9 :: s10 :: .own ds :: r) = .ok .none (s0 :: s1 :: s2 :: s3 :: s4 :: s5 :: s6 :: s7 :: s8 :: s9 :: s10 :: .own (ds ++ [d]) :: r) := by
  show (if ds.length < lim then _ else _) = _
  rw [if_pos h]
  rfl
theorem x_po11 {s0 s1 s2 s3 s4 s5 s6 s7 s8 s9 s10 : Sl} {ds : List D} {d : D} {r : En} : popM 11 (s0 :: s1 :: s2 :: s3 :: s4 :: s5 :: s6 :: s7 :: s8 :: s9 :: s10 :: .own (ds ++ [d]) :: r) = .ok d (s0 :: s1 :: s2 :: s3 :: s4 :: s5 :: s6 :: s7 :: s8 :: s9 :: s10 :: .own ds :: r) := by
  show (match (ds ++ [d]).getLast? with
    | some d' => Res.ok d' (s0 :: s1 :: s2 :: s3 :: s4 :: s5 :: s6 :: s7 :: s8 :: s9 :: s10 :: .own (ds ++ [d]).dropLast :: r)
    | none => .bad) = _
  simp
theorem x_pa11 {s0 s1 s2 s3 s4 s5 s6 s7 s8 s9 s10 : Sl} {ds : List D} {d : D} {k : Nat} {r : En} (h : ds[k]? = some d) : popAtTo 11 (.int (k : Nat)) (s0 :: s1 :: s2 :: s3 :: s4 :: s5 :: s6 :: s7 :: s8 :: s9 :: s10 :: .own ds :: r) = .ok d (s0 :: s1 :: s2 :: s3 :: s4 :: s5 :: s6 :: s7 :: s8 :: s9 :: s10 :: .own (ds.eraseIdx k) :: r) := by
  obtain ⟨h1, _⟩ := List.getElem?_eq_some_iff.mp h
  show (if 0 ≤ ((k : Nat) : Int) ∧ ((k : Nat) : Int) < ds.length then (match ds[((k : Nat) : Int).toNat]? with
    | some d => Res.ok d (s0 :: s1 :: s2 :: s3 :: s4 :: s5 :: s6 :: s7 :: s8 :: s9 :: s10 :: .own (ds.eraseIdx ((k : Nat) : Int).toNat) :: r)
    | none => .bad) else .bad) = _
  rw [if_pos ⟨by omega, by omega⟩, Int.toNat_natCast, h]
theorem x_re11 {s0 s1 s2 s3 s4 s5 s6 s7 s8 s9 s10 : Sl} {ds : List D} {z : Str} {j : Nat} {r : En} (h : ds.all isStrD = true) (h' : ds.findIdx? (isThis z) = some j) : remTo 11 (.str z) (s0 :: s1 :: s2 :: s3 :: s4 :: s5 :: s6 :: s7 :: s8 :: s9 :: s10 :: .own ds :: r) = .ok .none (s0 :: s1 :: s2 :: s3 :: s4 :: s5 :: s6 :: s7 :: s8 :: s9 :: s10 :: .own (ds.eraseIdx j) :: r) := by
  show (if ds.all isStrD then (match ds.findIdx? (isThis z) with
    | some j => Res.ok PyData.none (s0 :: s1 :: s2 :: s3 :: s4 :: s5 :: s6 :: s7 :: s8 :: s9 :: s10 :: .own (ds.eraseIdx j) :: r)
    | none => .bad) else .bad) = _
  rw [if_pos h, h']
theorem x_ixp11 {s0 s1 s2 s3 s4 s5 s6 s7 s8 s9 s10 : Sl} {ds : List D} {d : D} {r : En} (A : M D) (k : Nat) (h : ds[k]? = some d) : ixN 11 A (ret (.int (k : Nat))) (s0 :: s1 :: s2 :: s3 :: s4 :: s5 :: s6 :: s7 :: s8 :: s9 :: s10 :: .par ds :: r) = .ok d (s0 :: s1 :: s2 :: s3 :: s4 :: s5 :: s6 :: s7 :: s8 :: s9 :: s10 :: .par ds :: r) := by
  show (if 0 ≤ ((k : Nat) : Int) then (match ds[((k : Nat) : Int).toNat]? with
    | some d => Res.ok d (s0 :: s1 :: s2 :: s3 :: s4 :: s5 :: s6 :: s7 :: s8 :: s9 :: s10 :: .par ds :: r)
    | none => .bad) else .bad) = _
  rw [if_pos (by omega), Int.toNat_natCast, h]
theorem x_ap12 {s0 s1 s2 s3 s4 s5 s6 s7 s8 s9 s10 s11 : Sl} {ds : List D} {d : D} {r : En} (h : ds.length < lim) : appTo 12 d (s0 :: s1 :: s2 :: s3 :: s4 :: s5 :: s6 :: s7 :: s8 :: s9 :: s10 :: s11 :: .own ds :: r) = .ok .none (s0 :: s1 :: s2 :: s3 :: s4 :: s5 :: s6 :: s7 :: s8 :: s9 :: s10 :: s11 :: .own (ds ++ [d]) :: r) := by
  show (if ds.length < lim then _ else _) = _
  rw [if_pos h]
  rfl
theorem x_po12 {s0 s1 s2 s3 s4 s5 s6 s7 s8 s9 s10 s11 : Sl} {ds : List D} {d : D} {r : En} : popM 12 (s0 :: s1 :: s2 :: s3 :: s4 :: s5 :: s6 :: s7 :: s8 :: s9 :: s10 :: s11 :: .own (ds ++ [d]) :: r) = .ok d (s0 :: s1 :: s2 :: s3 :: s4 :: s5 :: s6 :: s7 :: s8 :: s9 :: s10 :: s11 :: .own ds :: r) := by
  show (match (ds ++ [d]).getLast? with
    | some d' => Res.ok d' (s0 :: s1 :: s2 :: s3 :: s4 :: s5 :: s6 :: s7 :: s8 :: s9 :: s10 :: s11 :: .own (ds ++ [d]).dropLast :: r)
    | none => .bad) = _
  simp
theorem x_pa12 {s0 s1 s2 s3 s4 s5 s6 s7 s8 s9 s10 s11 : Sl} {ds : List D} {d : D} {k : Nat} {r : En} (h : ds[k]? = some d) : popAtTo 12 (.int (k : Nat)) (s0 :: s1 :: s2 :: s3 :: s4 :: s5 :: s6 :: s7 :: s8 :: s9 :: s10 :: s11 :: .own ds :: r) = .ok d (s0 :: s1 :: s2 :: s3 :: s4 :: s5 :: s6 :: s7 :: s8 :: s9 :: s10 :: s11 :: .own (ds.eraseIdx k) :: r) := by
  obtain ⟨h1, _⟩ := List.getElem?_eq_some_iff.mp h
  show (if 0 ≤ ((k : Nat) : Int) ∧ ((k : Nat) : Int) < ds.length then (match ds[((k : Nat) : Int).toNat]? with
    | some d => Res.ok d (s0 :: s1 :: s2 :: s3 :: s4 :: s5 :: s6 :: s7 :: s8 :: s9 :: s10 :: s11 :: .own (ds.eraseIdx ((k : Nat) : Int).toNat) :: r)
    | none => .bad) else .bad) = _
  rw [if_pos ⟨by omega, by omega⟩, Int.toNat_natCast, h]
theorem x_re12 {s0 s1 s2 s3 s4 s5 s6 s7 s8 s9 s10 s11 : Sl} {ds : List D} {z : Str} {j : Nat} {r : En} (h : ds.all isStrD = true) (h' : ds.findIdx? (isThis z) = some j) : remTo 12 (.str z) (s0 :: s1 :: s2 :: s3 :: s4 :: s5 :: s6 :: s7 :: s8 :: s9 :: s10 :: s11 :: .own ds :: r) = .ok .none (s0 :: s1 :: s2 :: s3 :: s4 :: s5 :: s6 :: s7 :: s8 :: s9 :: s10 :: s11 :: .own (ds.eraseIdx j) :: r) := by
  show (if ds.all isStrD then (match ds.findIdx? (isThis z) with
    | some j => Res.ok PyData.none (s0 :: s1 :: s2 :: s3 :: s4 :: s5 :: s6 :: s7 :: s8 :: s9 :: s10 :: s11 :: .own (ds.eraseIdx j) :: r)
    | none => .bad) else .bad) = _
  rw [if_pos h, h']
theorem x_ixp12 {s0 s1 s2 s3 s4 s5 s6 s7 s8 s9 s10 s11 : Sl} {ds : List D} {d : D} {r : En} (A : M D) (k : Nat) (h : ds[k]? = some d) : ixN 12 A (ret (.int (k : Nat))) (s0 :: s1 :: s2 :: s3 :: s4 :: s5 :: s6 :: s7 :: s8 :: s9 :: s10 :: s11 :: .par ds :: r) = .ok d (s0 :: s1 :: s2 :: s3 :: s4 :: s5 :: s6 :: s7 :: s8 :: s9 :: s10 :: s11 :: .par ds :: r) := by
  show (if 0 ≤ ((k : Nat) : Int) then (match ds[((k : Nat) : Int).toNat]? with
    | some d => Res.ok d (s0 :: s1 :: s2 :: s3 :: s4 :: s5 :: s6 :: s7 :: s8 :: s9 :: s10 :: s11 :: .par ds :: r)
    | none => .bad) else .bad) = _
  rw [if_pos (by omega), Int.toNat_natCast, h]
theorem x_ap13 {s0 s1 s2 s3 s4 s5 s6 s7 s8 s9 s10 s11 s12 : Sl} {ds : List D} {d : D} {r : En} (h : ds.length < lim) : appTo 13 d (s0 :: s1 :: s2 :: s3 :: s4 :: s5 :: s6 :: s7 :: s8 :: s9 :: s10 :: s11 :: s12 :: .own ds :: r) = .ok .none (s0 :: s1 :: s2 :: s3 :: s4 :: s5 :: s6 :: s7 :: s8 :: s9 :: s10 :: s11 :: s12 :: .own (ds ++ [d]) :: r) := by
  show (if ds.length < lim then _ else _) = _
  rw [if_pos h]
  rfl
theorem x_po13 {s0 s1 s2 s3 s4 s5 s6 s7 s8 s9 s10 s11 s12 : Sl} {ds : List D} {d : D} {r : En} : popM 13 (s0 :: s1 :: s2 :: s3 :: s4 :: s5 :: s6 :: s7 :: s8 :: s9 :: s10 :: s11 :: s12 :: .own (ds ++ [d]) :: r) = .ok d (s0 :: s1 :: s2 :: s3 :: s4 :: s5 :: s6 :: s7 :: s8 :: s9 :: s10 :: s11 :: s12 :: .own ds :: r) := by
  show (match (ds ++ [d]).getLast? with
    | some d' => Res.ok d' (s0 :: s1 :: s2 :: s3 :: s4 :: s5 :: s6 :: s7 :: s8 :: s9 :: s10 :: s11 :: s12 :: .own (ds ++ [d]).dropLast :: r)
    | none => .bad) = _
  simp
theorem x_pa13 {s0 s1 s2 s3 s4 s5 s6 s7 s8 s9 s10 s11 s12 : Sl} {ds : List D} {d : D} {k : Nat} {r : En} (h : ds[k]? = some d) : popAtTo 13 (.int (k : Nat)) (s0 :: s1 :: s2 :: s3 :: s4 :: s5 :: s6 :: s7 :: s8 :: s9 :: s10 :: s11 :: s12 :: .own ds :: r) = .ok d (s0 :: s1 :: s2 :: s3 :: s4 :: s5 :: s6 :: s7 :: s8 :: s9 :: s10 :: s11 :: s12 :: .own (ds.eraseIdx k) :: r) := by
  obtain ⟨h1, _⟩ := List.getElem?_eq_some_iff.mp h
  show (if 0 ≤ ((k : Nat) : Int) ∧ ((k : Nat) : Int) < ds.length then (match ds[((k : Nat) : Int).toNat]? with
    | some d => Res.ok d (s0 :: s1 :: s2 :: s3 :: s4 :: s5 :: s6 :: s7 :: s8 :: s9 :: s10 :: s11 :: s12 :: .own (ds.eraseIdx ((k : Nat) : Int).toNat) :: r)
    | none => .bad) else .bad) = _
  rw [if_pos ⟨by omega, by omega⟩, Int.toNat_natCast, h]
theorem x_re13 {s0 s1 s2 s3 s4 s5 s6 s7 s8 s9 s10 s11 s12 : Sl} {ds : List D} {z : Str} {j : Nat} {r : En} (h : ds.all isStrD = true) (h' : ds.findIdx? (isThis z) = some j) : remTo 13 (.str z) (s0 :: s1 :: s2 :: s3 :: s4 :: s5 :: s6 :: s7 :: s8 :: s9 :: s10 :: s11 :: s12 :: .own ds :: r) = .ok .none (s0 :: s1 :: s2 :: s3 :: s4 :: s5 :: s6 :: s7 :: s8 :: s9 :: s10 :: s11 :: s12 :: .own (ds.eraseIdx j) :: r) := by
  show (if ds.all isStrD then (match ds.findIdx? (isThis z) with
    | some j => Res.ok PyData.none (s0 :: s1 :: s2 :: s3 :: s4 :: s5 :: s6 :: s7 :: s8 :: s9 :: s10 :: s11 :: s12 :: .own (ds.eraseIdx j) :: r)
    | none => .bad) else .bad) = _
  rw [if_pos h, h']
theorem x_ixp13 {s0 s1 s2 s3 s4 s5 s6 s7 s8 s9 s10 s11 s12 : Sl} {ds : List D} {d : D} {r : En} (A : M D) (k : Nat) (h : ds[k]? = some d) : ixN 13 A (ret (.int (k : Nat))) (s0 :: s1 :: s2 :: s3 :: s4 :: s5 :: s6 :: s7 :: s8 :: s9 :: s10 :: s11 :: s12 :: .par ds :: r) = .ok d (s0 :: s1 :: s2 :: s3 :: s4 :: s5 :: s6 :: s7 :: s8 :: s9 :: s10 :: s11 :: s12 :: .par ds :: r) := by
  show (if 0 ≤ ((k : Nat) : Int) then (match ds[((k : Nat) : Int).toNat]? with
    | some d => Res.ok d (s0 :: s1 :: s2 :: s3 :: s4 :: s5 :: s6 :: s7 :: s8 :: s9 :: s10 :: s11 :: s12 :: .par ds :: r)
    | none => .bad) else .bad) = _
  rw [if_pos (by omega), Int.toNat_natCast, h]

/-! typed data -/
theorem mul_l (i j : Int) (h : smallM i = true) : opD .Mult (.int i) (.int j) = some (.int (i * j)) := by
  show (if mulOk i j then _ else _) = _
  have : mulOk i j = true := by unfold mulOk; rw [h]; simp
  rw [if_pos this]
theorem mul_r (i j : Int) (h : smallM j = true) : opD .Mult (.int i) (.int j) = some (.int (i * j)) := by
  show (if mulOk i j then _ else _) = _
  have : mulOk i j = true := by unfold mulOk; rw [h]; simp
  rw [if_pos this]
theorem o_mul2 (j : Int) : opD .Mult (.int 2) (.int j) = some (.int (2 * j)) := mul_l 2 j rfl
theorem o_add (i j : Int) : opD .Add (.int i) (.int j) = some (.int (i + j)) := rfl
theorem o_sub (i j : Int) : opD .Sub (.int i) (.int j) = some (.int (i - j)) := rfl
theorem o_lt (i j : Int) : cmpD .Lt (.int i) (.int j) = some (decide (i < j)) := rfl
theorem o_le (i j : Int) : cmpD .LtE (.int i) (.int j) = some (decide (i ≤ j)) := rfl
theorem o_gt (i j : Int) : cmpD .Gt (.int i) (.int j) = some (decide (j < i)) := rfl
theorem o_ge (i j : Int) : cmpD .GtE (.int i) (.int j) = some (decide (j ≤ i)) := rfl
theorem o_eqi (i j : Int) : cmpD .Eq (.int i) (.int j) = some (decide (i = j)) := by rw [cmp_eq (Good.int i) (Good.int j), int_eqv]
theorem o_nei (i j : Int) : cmpD .NotEq (.int i) (.int j) = some (!decide (i = j)) := by rw [cmp_ne (Good.int i) (Good.int j), int_eqv]
theorem len_day (n : Nms) (es : Day) : lenD [dayD n es] = some (.int (es.length : Nat)) := by unfold dayD lenD; simp
theorem len_nsT (n : Nms) (es : List Nat) : lenD [nsT n es] = some (.int (es.length : Nat)) := by unfold nsT lenD; simp
theorem len_nsL (n : Nms) (es : List Nat) : lenD [nsL n es] = some (.int (es.length : Nat)) := by unfold nsL lenD; simp
theorem isi_day (n : Nms) (es : Day) : isiD "list" (dayD n es) = some true := rfl
theorem isi_ev (n : Nms) (e : Ev) : isiD "tuple" (evD n e) = some true := rfl
theorem isi_word (b : Bool) : isiD "str" (wordD b) = some true := rfl
theorem isi_nm (n : Nms) (i : Nat) : isiD "str" (nmD n i) = some true := rfl
theorem ix_ev0 (n : Nms) (e : Ev) : ixD (evD n e) (.int 0) = some (wordD e.1) := rfl
theorem ix_ev1 (n : Nms) (e : Ev) : ixD (evD n e) (.int 1) = some (nmD n e.2) := rfl
theorem len_ev (n : Nms) (e : Ev) : lenD [evD n e] = some (.int 2) := rfl
theorem sl_dayTo (n : Nms) (es : Day) (i : Nat) : slD (dayD n es) none (some (i : Int)) = some (dayD n (es.take i)) := by
  unfold dayD; rw [sl_list', cut_to]
theorem tup_comes (n : Nms) (i : Nat) : (PyData.tuple [.str "comes", nmD n i] : D) = evD n (true, i) := rfl
theorem tup_leaves (n : Nms) (i : Nat) : (PyData.tuple [.str "leaves", nmD n i] : D) = evD n (false, i) := rfl
def idx (e : Ev) (es : Day) : Option Nat := es.findIdx? fun z => decide (z = e)
theorem idx_day (n : Nms) (es : Day) (e : Ev) : idxM (dayD n es) [evD n e] = (idx e es).map fun j => .int (j : Nat) := idx_list (ev_eqv n) (good_ev n) (by decide) e es
def cnt (e : Ev) (es : Day) : Nat := es.countP fun z => decide (z = e)
theorem cnt_day (n : Nms) (es : Day) (e : Ev) : cntM (dayD n es) [evD n e] = some (.int (cnt e es : Nat)) := cnt_list (ev_eqv n) (good_ev n) (by decide) e es
theorem in_nsT (n : Nms) (l : List Nat) (i : Nat) : cmpD .In (nmD n i) (nsT n l) = some (decide (i ∈ l)) := in_tuple (nm_eqv n) (good_nm n) (by decide) i l
theorem in_nsL (n : Nms) (l : List Nat) (i : Nat) : cmpD .In (nmD n i) (nsL n l) = some (decide (i ∈ l)) := in_list (nm_eqv n) (good_nm n) (by decide) i l
theorem seq_day (n : Nms) (es : Day) : seqOf (dayD n es) = some (es.map (evD n)) := rfl
theorem seq_nsT (n : Nms) (es : List Nat) : seqOf (nsT n es) = some (es.map (nmD n)) := rfl
theorem seq_nsL (n : Nms) (es : List Nat) : seqOf (nsL n es) = some (es.map (nmD n)) := rfl
theorem o_word (b : Bool) : cmpD .Eq (wordD b) (.str "comes") = some b := by cases b <;> decide +kernel
theorem o_word' (b : Bool) : cmpD .In (wordD b) (.tuple [.str "comes", .str "leaves"]) = some true := by cases b <;> decide +kernel

end TD

set_option Elab.async false
set_option linter.all false
set_option maxRecDepth 100000
/-! TV5: more rewriting rules. -/
local macro_rules | `(tactic| simp! only [$args,*]) => `(tactic| simp -implicitDefEqProofs only [List.length_cons, List.length_nil, ↓reduceIte, List.replicate, List.cons_append, List.nil_append, List.map_cons, List.map_nil, Option.map_some, Bool.not_true, Bool.not_false, Bool.false_eq_true, Bool.true_eq_false, Bool.and_true, Bool.true_and, Bool.and_false, Bool.false_and, TD.x_bnd, TD.x_then_ok, TD.x_then_exc, TD.x_ret, TD.x_opt, TD.x_noX, TD.x_noExc, TD.x_keep_ok, TD.x_keep_exc, TD.x_lentTo, TD.x_seq0, TD.x_seqc, TD.x_opM, TD.x_cmpM, TD.x_cmpB, TD.x_cmp2M, TD.x_cmp2B, TD.x_andB, TD.x_orB, TD.x_notB, TD.x_boolThen, TD.x_andM, TD.x_orM, TD.x_negM, TD.x_notM, TD.x_asBool, TD.x_ifM, TD.x_tup0, TD.x_tup1, TD.x_tup2, TD.x_tup3, TD.x_lst0, TD.x_lst1, TD.x_bf1, TD.x_bf2, TD.x_mt1, TD.x_slM, TD.x_intThen, TD.x_partM, TD.x_rvM, TD.x_ixM, TD.x_isiM, TD.x_call1, TD.x_call2, TD.x_call3, TD.x_fl_next, TD.x_fl_ret, TD.x_fl_brk, TD.x_blk0, TD.x_blkc, TD.x_exS, TD.x_retS, TD.x_raiS, TD.x_valR, TD.x_own0, TD.x_own1, TD.x_cpyT, TD.x_cpyL, TD.x_cpyR, TD.x_setS, TD.x_setL, TD.x_wrL0, TD.x_wrLc, TD.x_unpS, TD.x_ifD, TD.x_ifS, TD.x_forS, TD.x_seqI, TD.x_seqOfL, TD.x_seqOfT, TD.x_rng1T, TD.x_rng1, TD.x_enuL, TD.x_enuT, TD.x_enuI, TD.x_zipL, TD.x_zipT, TD.x_zipI, TD.x_rd0, TD.x_rdo0, TD.x_wv0, TD.x_wo0, TD.x_wn0, TD.x_ixv0, TD.x_lnv0, TD.x_lno0, TD.x_mtv0, TD.x_mto0, TD.x_lt0, TD.x_lp0, TD.x_pt0, TD.x_pp0, TD.x_cp0, TD.x_cq0, TD.x_rd1, TD.x_rdo1, TD.x_wv1, TD.x_wo1, TD.x_wn1, TD.x_ixv1, TD.x_lnv1, TD.x_lno1, TD.x_mtv1, TD.x_mto1, TD.x_lt1, TD.x_lp1, TD.x_pt1, TD.x_pp1, TD.x_cp1, TD.x_cq1, TD.x_rd2, TD.x_rdo2, TD.x_wv2, TD.x_wo2, TD.x_wn2, TD.x_ixv2, TD.x_lnv2, TD.x_lno2, TD.x_mtv2, TD.x_mto2, TD.x_lt2, TD.x_lp2, TD.x_pt2, TD.x_pp2, TD.x_cp2, TD.x_cq2, TD.x_rd3, TD.x_rdo3, TD.x_wv3, TD.x_wo3, TD.x_wn3, TD.x_ixv3, TD.x_lnv3, TD.x_lno3, TD.x_mtv3, TD.x_mto3, TD.x_lt3, TD.x_lp3, TD.x_pt3, TD.x_pp3, TD.x_cp3, TD.x_cq3, TD.x_rd4, TD.x_rdo4, TD.x_wv4, TD.x_wo4, TD.x_wn4, TD.x_ixv4, TD.x_lnv4, TD.x_lno4, TD.x_mtv4, TD.x_mto4, TD.x_lt4, TD.x_lp4, TD.x_pt4, TD.x_pp4, TD.x_cp4, TD.x_cq4, TD.x_rd5, TD.x_rdo5, TD.x_wv5, TD.x_wo5, TD.x_wn5, TD.x_ixv5, TD.x_lnv5, TD.x_lno5, TD.x_mtv5, TD.x_mto5, TD.x_lt5, TD.x_lp5, TD.x_pt5, TD.x_pp5, TD.x_cp5, TD.x_cq5, TD.x_rd6, TD.x_rdo6, TD.x_wv6, TD.x_wo6, TD.x_wn6, TD.x_ixv6, TD.x_lnv6, TD.x_lno6, TD.x_mtv6, TD.x_mto6, TD.x_lt6, TD.x_lp6, TD.x_pt6, TD.x_pp6, TD.x_cp6, TD.x_cq6, TD.x_rd7, TD.x_rdo7, TD.x_wv7, TD.x_wo7, TD.x_wn7, TD.x_ixv7, TD.x_lnv7, TD.x_lno7, TD.x_mtv7, TD.x_mto7, TD.x_lt7, TD.x_lp7, TD.x_pt7, TD.x_pp7, TD.x_cp7, TD.x_cq7, TD.x_rd8, TD.x_rdo8, TD.x_wv8, TD.x_wo8, TD.x_wn8, TD.x_ixv8, TD.x_lnv8, TD.x_lno8, TD.x_mtv8, TD.x_mto8, TD.x_lt8, TD.x_lp8, TD.x_pt8, TD.x_pp8, TD.x_cp8, TD.x_cq8, TD.x_rd9, TD.x_rdo9, TD.x_wv9, TD.x_wo9, TD.x_wn9, TD.x_ixv9, TD.x_lnv9, TD.x_lno9, TD.x_mtv9, TD.x_mto9, TD.x_lt9, TD.x_lp9, TD.x_pt9, TD.x_pp9, TD.x_cp9, TD.x_cq9, TD.x_rd10, TD.x_rdo10, TD.x_wv10, TD.x_wo10, TD.x_wn10, TD.x_ixv10, TD.x_lnv10, TD.x_lno10, TD.x_mtv10, TD.x_mto10, TD.x_lt10, TD.x_lp10, TD.x_pt10, TD.x_pp10, TD.x_cp10, TD.x_cq10, TD.x_rd11, TD.x_rdo11, TD.x_wv11, TD.x_wo11, TD.x_wn11, TD.x_ixv11, TD.x_lnv11, TD.x_lno11, TD.x_mtv11, TD.x_mto11, TD.x_lt11, TD.x_lp11, TD.x_pt11, TD.x_pp11, TD.x_cp11, TD.x_cq11, TD.x_rd12, TD.x_rdo12, TD.x_wv12, TD.x_wo12, TD.x_wn12, TD.x_ixv12, TD.x_lnv12, TD.x_lno12, TD.x_mtv12, TD.x_mto12, TD.x_lt12, TD.x_lp12, TD.x_pt12, TD.x_pp12, TD.x_cp12, TD.x_cq12, TD.x_rd13, TD.x_rdo13, TD.x_wv13, TD.x_wo13, TD.x_wn13, TD.x_ixv13, TD.x_lnv13, TD.x_lno13, TD.x_mtv13, TD.x_mto13, TD.x_lt13, TD.x_lp13, TD.x_pt13, TD.x_pp13, TD.x_cp13, TD.x_cq13, TD.x_bor, TD.x_back, TD.x_backE, TD.x_backTo, TD.x_frzv, TD.x_frzo, TD.x_frzp, TD.x_frzn, TD.x_rs0, TD.x_rsv, TD.x_rso, TD.x_rsn, TD.x_rsp, TD.x_asn, TD.x_as2, TD.x_as3, TD.x_app, TD.x_popAt, TD.x_rem, TD.x_ap0, TD.x_po0, TD.x_pa0, TD.x_ap1, TD.x_po1, TD.x_pa1, TD.x_ap2, TD.x_po2, TD.x_pa2, TD.x_ap3, TD.x_po3, TD.x_pa3, TD.x_ap4, TD.x_po4, TD.x_pa4, TD.x_ap5, TD.x_po5, TD.x_pa5, TD.x_ap6, TD.x_po6, TD.x_pa6, TD.x_ap7, TD.x_po7, TD.x_pa7, TD.x_ap8, TD.x_po8, TD.x_pa8, TD.x_ap9, TD.x_po9, TD.x_pa9, TD.x_ap10, TD.x_po10, TD.x_pa10, TD.x_ap11, TD.x_po11, TD.x_pa11, TD.x_ap12, TD.x_po12, TD.x_pa12, TD.x_ap13, TD.x_po13, TD.x_pa13, TD.o_mul2, TD.o_add, TD.o_sub, TD.o_lt, TD.o_le, TD.o_gt, TD.o_ge, TD.o_eqi, TD.o_nei, TD.len_day, TD.len_nsT, TD.len_nsL, TD.isi_day, TD.isi_ev, TD.isi_word, TD.isi_nm, TD.ix_ev0, TD.ix_ev1, TD.len_ev, TD.sl_dayTo, TD.tup_comes, TD.tup_leaves, TD.idx_day, TD.cnt_day, TD.in_nsT, TD.in_nsL, TD.seq_day, TD.seq_nsT, TD.seq_nsL, TD.o_word, TD.o_word', $args,*])
namespace TD
open PySem
theorem x_rd14 {s0 s1 s2 s3 s4 s5 s6 s7 s8 s9 s10 s11 s12 s13 : Sl} {d : D} {r : En} : rdSlot 14 (s0 :: s1 :: s2 :: s3 :: s4 :: s5 :: s6 :: s7 :: s8 :: s9 :: s10 :: s11 :: s12 :: s13 :: .val d :: r) = .ok d (s0 :: s1 :: s2 :: s3 :: s4 :: s5 :: s6 :: s7 :: s8 :: s9 :: s10 :: s11 :: s12 :: s13 :: .val d :: r) := rfl
theorem x_rd15 {s0 s1 s2 s3 s4 s5 s6 s7 s8 s9 s10 s11 s12 s13 s14 : Sl} {d : D} {r : En} : rdSlot 15 (s0 :: s1 :: s2 :: s3 :: s4 :: s5 :: s6 :: s7 :: s8 :: s9 :: s10 :: s11 :: s12 :: s13 :: s14 :: .val d :: r) = .ok d (s0 :: s1 :: s2 :: s3 :: s4 :: s5 :: s6 :: s7 :: s8 :: s9 :: s10 :: s11 :: s12 :: s13 :: s14 :: .val d :: r) := rfl
theorem x_rd16 {s0 s1 s2 s3 s4 s5 s6 s7 s8 s9 s10 s11 s12 s13 s14 s15 : Sl} {d : D} {r : En} : rdSlot 16 (s0 :: s1 :: s2 :: s3 :: s4 :: s5 :: s6 :: s7 :: s8 :: s9 :: s10 :: s11 :: s12 :: s13 :: s14 :: s15 :: .val d :: r) = .ok d (s0 :: s1 :: s2 :: s3 :: s4 :: s5 :: s6 :: s7 :: s8 :: s9 :: s10 :: s11 :: s12 :: s13 :: s14 :: s15 :: .val d :: r) := rfl
theorem x_rd17 {s0 s1 s2 s3 s4 s5 s6 s7 s8 s9 s10 s11 s12 s13 s14 s15 s16 : Sl} {d : D} {r : En} : rdSlot 17 (s0 :: s1 :: s2 :: s3 :: s4 :: s5 :: s6 :: s7 :: s8 :: s9 :: s10 :: s11 :: s12 :: s13 :: s14 :: s15 :: s16 :: .val d :: r) = .ok d (s0 :: s1 :: s2 :: s3 :: s4 :: s5 :: s6 :: s7 :: s8 :: s9 :: s10 :: s11 :: s12 :: s13 :: s14 :: s15 :: s16 :: .val d :: r) := rfl
theorem x_rd18 {s0 s1 s2 s3 s4 s5 s6 s7 s8 s9 s10 s11 s12 s13 s14 s15 s16 s17 : Sl} {d : D} {r : En} : rdSlot 18 (s0 :: s1 :: s2 :: s3 :: s4 :: s5 :: s6 :: s7 :: s8 :: s9 :: s10 :: s11 :: s12 :: s13 :: s14 :: s15 :: s16 :: s17 :: .val d :: r) = .ok d (s0 :: s1 :: s2 :: s3 :: s4 :: s5 :: s6 :: s7 :: s8 :: s9 :: s10 :: s11 :: s12 :: s13 :: s14 :: s15 :: s16 :: s17 :: .val d :: r) := rfl
theorem x_rd19 {s0 s1 s2 s3 s4 s5 s6 s7 s8 s9 s10 s11 s12 s13 s14 s15 s16 s17 s18 : Sl} {d : D} {r : En} : rdSlot 19 (s0 :: s1 :: s2 :: s3 :: s4 :: s5 :: s6 :: s7 :: s8 :: s9 :: s10 :: s11 :: s12 :: s13 :: s14 :: s15 :: s16 :: s17 :: s18 :: .val d :: r) = .ok d (s0 :: s1 :: s2 :: s3 :: s4 :: s5 :: s6 :: s7 :: s8 :: s9 :: s10 :: s11 :: s12 :: s13 :: s14 :: s15 :: s16 :: s17 :: s18 :: .val d :: r) := rfl
theorem x_rd20 {s0 s1 s2 s3 s4 s5 s6 s7 s8 s9 s10 s11 s12 s13 s14 s15 s16 s17 s18 s19 : Sl} {d : D} {r : En} : rdSlot 20 (s0 :: s1 :: s2 :: s3 :: s4 :: s5 :: s6 :: s7 :: s8 :: s9 :: s10 :: s11 :: s12 :: s13 :: s14 :: s15 :: s16 :: s17 :: s18 :: s19 :: .val d :: r) = .ok d (s0 :: s1 :: s2 :: s3 :: s4 :: s5 :: s6 :: s7 :: s8 :: s9 :: s10 :: s11 :: s12 :: s13 :: s14 :: s15 :: s16 :: s17 :: s18 :: s19 :: .val d :: r) := rfl
theorem x_rd21 {s0 s1 s2 s3 s4 s5 s6 s7 s8 s9 s10 s11 s12 s13 s14 s15 s16 s17 s18 s19 s20 : Sl} {d : D} {r : En} : rdSlot 21 (s0 :: s1 :: s2 :: s3 :: s4 :: s5 :: s6 :: s7 :: s8 :: s9 :: s10 :: s11 :: s12 :: s13 :: s14 :: s15 :: s16 :: s17 :: s18 :: s19 :: s20 :: .val d :: r) = .ok d (s0 :: s1 :: s2 :: s3 :: s4 :: s5 :: s6 :: s7 :: s8 :: s9 :: s10 :: s11 :: s12 :: s13 :: s14 :: s15 :: s16 :: s17 :: s18 :: s19 :: s20 :: .val d :: r) := rfl
theorem x_rd22 {s0 s1 s2 s3 s4 s5 s6 s7 s8 s9 s10 s11 s12 s13 s14 s15 s16 s17 s18 s19 s20 s21 : Sl} {d : D} {r : En} : rdSlot 22 (s0 :: s1 :: s2 :: s3 :: s4 :: s5 :: s6 :: s7 :: s8 :: s9 :: s10 :: s11 :: s12 :: s13 :: s14 :: s15 :: s16 :: s17 :: s18 :: s19 :: s20 :: s21 :: .val d :: r) = .ok d (s0 :: s1 :: s2 :: s3 :: s4 :: s5 :: s6 :: s7 :: s8 :: s9 :: s10 :: s11 :: s12 :: s13 :: s14 :: s15 :: s16 :: s17 :: s18 :: s19 :: s20 :: s21 :: .val d :: r) := rfl
theorem x_rd23 {s0 s1 s2 s3 s4 s5 s6 s7 s8 s9 s10 s11 s12 s13 s14 s15 s16 s17 s18 s19 s20 s21 s22 : Sl} {d : D} {r : En} : rdSlot 23 (s0 :: s1 :: s2 :: s3 :: s4 :: s5 :: s6 :: s7 :: s8 :: s9 :: s10 :: s11 :: s12 :: s13 :: s14 :: s15 :: s16 :: s17 :: s18 :: s19 :: s20 :: s21 :: s22 :: .val d :: r) = .ok d (s0 :: s1 :: s2 :: s3 :: s4 :: s5 :: s6 :: s7 :: s8 :: s9 :: s10 :: s11 :: s12 :: s13 :: s14 :: s15 :: s16 :: s17 :: s18 :: s19 :: s20 :: s21 :: s22 :: .val d :: r) := rfl
theorem x_rd24 {s0 s1 s2 s3 s4 s5 s6 s7 s8 s9 s10 s11 s12 s13 s14 s15 s16 s17 s18 s19 s20 s21 s22 s23 : Sl} {d : D} {r : En} : rdSlot 24 (s0 :: s1 :: s2 :: s3 :: s4 :: s5 :: s6 :: s7 :: s8 :: s9 :: s10 :: s11 :: s12 :: s13 :: s14 :: s15 :: s16 :: s17 :: s18 :: s19 :: s20 :: s21 :: s22 :: s23 :: .val d :: r) = .ok d (s0 :: s1 :: s2 :: s3 :: s4 :: s5 :: s6 :: s7 :: s8 :: s9 :: s10 :: s11 :: s12 :: s13 :: s14 :: s15 :: s16 :: s17 :: s18 :: s19 :: s20 :: s21 :: s22 :: s23 :: .val d :: r) := rfl
theorem x_rd25 {s0 s1 s2 s3 s4 s5 s6 s7 s8 s9 s10 s11 s12 s13 s14 s15 s16 s17 s18 s19 s20 s21 s22 s23 s24 : Sl} {d : D} {r : En} : rdSlot 25 (s0 :: s1 :: s2 :: s3 :: s4 :: s5 :: s6 :: s7 :: s8 :: s9 :: s10 :: s11 :: s12 :: s13 :: s14 :: s15 :: s16 :: s17 :: s18 :: s19 :: s20 :: s21 :: s22 :: s23 :: s24 :: .val d :: r) = .ok d (s0 :: s1 :: s2 :: s3 :: s4 :: s5 :: s6 :: s7 :: s8 :: s9 :: s10 :: s11 :: s12 :: s13 :: s14 :: s15 :: s16 :: s17 :: s18 :: s19 :: s20 :: s21 :: s22 :: s23 :: s24 :: .val d :: r) := rfl
theorem x_rdo14 {s0 s1 s2 s3 s4 s5 s6 s7 s8 s9 s10 s11 s12 s13 : Sl} {ds : List D} {r : En} : rdSlot 14 (s0 :: s1 :: s2 :: s3 :: s4 :: s5 :: s6 :: s7 :: s8 :: s9 :: s10 :: s11 :: s12 :: s13 :: .own ds :: r) = .ok (.list ds) (s0 :: s1 :: s2 :: s3 :: s4 :: s5 :: s6 :: s7 :: s8 :: s9 :: s10 :: s11 :: s12 :: s13 :: .val (.list ds) :: r) := rfl
theorem x_rdo15 {s0 s1 s2 s3 s4 s5 s6 s7 s8 s9 s10 s11 s12 s13 s14 : Sl} {ds : List D} {r : En} : rdSlot 15 (s0 :: s1 :: s2 :: s3 :: s4 :: s5 :: s6 :: s7 :: s8 :: s9 :: s10 :: s11 :: s12 :: s13 :: s14 :: .own ds :: r) = .ok (.list ds) (s0 :: s1 :: s2 :: s3 :: s4 :: s5 :: s6 :: s7 :: s8 :: s9 :: s10 :: s11 :: s12 :: s13 :: s14 :: .val (.list ds) :: r) := rfl
theorem x_rdo16 {s0 s1 s2 s3 s4 s5 s6 s7 s8 s9 s10 s11 s12 s13 s14 s15 : Sl} {ds : List D} {r : En} : rdSlot 16 (s0 :: s1 :: s2 :: s3 :: s4 :: s5 :: s6 :: s7 :: s8 :: s9 :: s10 :: s11 :: s12 :: s13 :: s14 :: s15 :: .own ds :: r) = .ok (.list ds) (s0 :: s1 :: s2 :: s3 :: s4 :: s5 :: s6 :: s7 :: s8 :: s9 :: s10 :: s11 :: s12 :: s13 :: s14 :: s15 :: .val (.list ds) :: r) := rfl
theorem x_rdo17 {s0 s1 s2 s3 s4 s5 s6 s7 s8 s9 s10 s11 s12 s13 s14 s15 s16 : Sl} {ds : List D} {r : En} : rdSlot 17 (s0 :: s1 :: s2 :: s3 :: s4 :: s5 :: s6 :: s7 :: s8 :: s9 :: s10 :: s11 :: s12 :: s13 :: s14 :: s15 :: s16 :: .own ds :: r) = .ok (.list ds) (s0 :: s1 :: s2 :: s3 :: s4 :: s5 :: s6 :: s7 :: s8 :: s9 :: s10 :: s11 :: s12 :: s13 :: s14 :: s15 :: s16 :: .val (.list ds) :: r) := rfl
theorem x_rdo18 {s0 s1 s2 s3 s4 s5 s6 s7 s8 s9 s10 s11 s12 s13 s14 s15 s16 s17 : Sl} {ds : List D} {r : En} : rdSlot 18 (s0 :: s1 :: s2 :: s3 :: s4 :: s5 :: s6 :: s7 :: s8 :: s9 :: s10 :: s11 :: s12 :: s13 :: s14 :: s15 :: s16 :: s17 :: .own ds :: r) = .ok (.list ds) (s0 :: s1 :: s2 :: s3 :: s4 :: s5 :: s6 :: s7 :: s8 :: s9 :: s10 :: s11 :: s12 :: s13 :: s14 :: s15 :: s16 :: s17 :: .val (.list ds) :: r) := rfl
theorem x_rdo19 {s0 s1 s2 s3 s4 s5 s6 s7 s8 s9 s10 s11 s12 s13 s14 s15 s16 s17 s18 : Sl} {ds : List D} {r : En} : rdSlot 19 (s0 :: s1 :: s2 :: s3 :: s4 :: s5 :: s6 :: s7 :: s8 :: s9 :: s10 :: s11 :: s12 :: s13 :: s14 :: s15 :: s16 :: s17 :: s18 :: .own ds :: r) = .ok (.list ds) (s0 :: s1 :: s2 :: s3 :: s4 :: s5 :: s6 :: s7 :: s8 :: s9 :: s10 :: s11 :: s12 :: s13 :: s14 :: s15 :: s16 :: s17 :: s18 :: .val (.list ds) :: r) := rfl
theorem x_rdo20 {s0 s1 s2 s3 s4 s5 s6 s7 s8 s9 s10 s11 s12 s13 s14 s15 s16 s17 s18 s19 : Sl} {ds : List D} {r : En} : rdSlot 20 (s0 :: s1 :: s2 :: s3 :: s4 :: s5 :: s6 :: s7 :: s8 :: s9 :: s10 :: s11 :: s12 :: s13 :: s14 :: s15 :: s16 :: s17 :: s18 :: s19 :: .own ds :: r) = .ok (.list ds) (s0 :: s1 :: s2 :: s3 :: s4 :: s5 :: s6 :: s7 :: s8 :: s9 :: s10 :: s11 :: s12 :: s13 :: s14 :: s15 :: s16 :: s17 :: s18 :: s19 :: .val (.list ds) :: r) := rfl
theorem x_rdo21 {s0 s1 s2 s3 s4 s5 s6 s7 s8 s9 s10 s11 s12 s13 s14 s15 s16 s17 s18 s19 s20 : Sl} {ds : List D} {r : En} : rdSlot 21 (s0 :: s1 :: s2 :: s3 :: s4 :: s5 :: s6 :: s7 :: s8 :: s9 :: s10 :: s11 :: s12 :: s13 :: s14 :: s15 :: s16 :: s17 :: s18 :: s19 :: s20 :: .own ds :: r) = .ok (.list ds) (s0 :: s1 :: s2 :: s3 :: s4 :: s5 :: s6 :: s7 :: s8 :: s9 :: s10 :: s11 :: s12 :: s13 :: s14 :: s15 :: s16 :: s17 :: s18 :: s19 :: s20 :: .val (.list ds) :: r) := rfl
theorem x_rdo22 {s0 s1 s2 s3 s4 s5 s6 s7 s8 s9 s10 s11 s12 s13 s14 s15 s16 s17 s18 s19 s20 s21 : Sl} {ds : List D} {r : En} : rdSlot 22 (s0 :: s1 :: s2 :: s3 :: s4 :: s5 :: s6 :: s7 :: s8 :: s9 :: s10 :: s11 :: s12 :: s13 :: s14 :: s15 :: s16 :: s17 :: s18 :: s19 :: s20 :: s21 :: .own ds :: r) = .ok (.list ds) (s0 :: s1 :: s2 :: s3 :: s4 :: s5 :: s6 :: s7 :: s8 :: s9 :: s10 :: s11 :: s12 :: s13 :: s14 :: s15 :: s16 :: s17 :: s18 :: s19 :: s20 :: s21 :: .val (.list ds) :: r) := rfl
theorem x_rdo23 {s0 s1 s2 s3 s4 s5 s6 s7 s8 s9 s10 s11 s12 s13 s14 s15 s16 s17 s18 s19 s20 s21 s22 : Sl} {ds : List D} {r : En} : rdSlot 23 (s0 :: s1 :: s2 :: s3 :: s4 :: s5 :: s6 :: s7 :: s8 :: s9 :: s10 :: s11 :: s12 :: s13 :: s14 :: s15 :: s16 :: s17 :: s18 :: s19 :: s20 :: s21 :: s22 :: .own ds :: r) = .ok (.list ds) (s0 :: s1 :: s2 :: s3 :: s4 :: s5 :: s6 :: s7 :: s8 :: s9 :: s10 :: s11 :: s12 :: s13 :: s14 :: s15 :: s16 :: s17 :: s18 :: s19 :: s20 :: s21 :: s22 :: .val (.list ds) :: r) := rfl
theorem x_rdo24 {s0 s1 s2 s3 s4 s5 s6 s7 s8 s9 s10 s11 s12 s13 s14 s15 s16 s17 s18 s19 s20 s21 s22 s23 : Sl} {ds : List D} {r : En} : rdSlot 24 (s0 :: s1 :: s2 :: s3 :: s4 :: s5 :: s6 :: s7 :: s8 :: s9 :: s10 :: s11 :: s12 :: s13 :: s14 :: s15 :: s16 :: s17 :: s18 :: s19 :: s20 :: s21 :: s22 :: s23 :: .own ds :: r) = .ok (.list ds) (s0 :: s1 :: s2 :: s3 :: s4 :: s5 :: s6 :: s7 :: s8 :: s9 :: s10 :: s11 :: s12 :: s13 :: s14 :: s15 :: s16 :: s17 :: s18 :: s19 :: s20 :: s21 :: s22 :: s23 :: .val (.list ds) :: r) := rfl
theorem x_rdo25 {s0 s1 s2 s3 s4 s5 s6 s7 s8 s9 s10 s11 s12 s13 s14 s15 s16 s17 s18 s19 s20 s21 s22 s23 s24 : Sl} {ds : List D} {r : En} : rdSlot 25 (s0 :: s1 :: s2 :: s3 :: s4 :: s5 :: s6 :: s7 :: s8 :: s9 :: s10 :: s11 :: s12 :: s13 :: s14 :: s15 :: s16 :: s17 :: s18 :: s19 :: s20 :: s21 :: s22 :: s23 :: s24 :: .own ds :: r) = .ok (.list ds) (s0 :: s1 :: s2 :: s3 :: s4 :: s5 :: s6 :: s7 :: s8 :: s9 :: s10 :: s11 :: s12 :: s13 :: s14 :: s15 :: s16 :: s17 :: s18 :: s19 :: s20 :: s21 :: s22 :: s23 :: s24 :: .val (.list ds) :: r) := rfl
theorem x_wv14 {s0 s1 s2 s3 s4 s5 s6 s7 s8 s9 s10 s11 s12 s13 : Sl} {d : D} {v : Sl} {r : En} : wrSlot 14 v (s0 :: s1 :: s2 :: s3 :: s4 :: s5 :: s6 :: s7 :: s8 :: s9 :: s10 :: s11 :: s12 :: s13 :: .val d :: r) = .ok () (s0 :: s1 :: s2 :: s3 :: s4 :: s5 :: s6 :: s7 :: s8 :: s9 :: s10 :: s11 :: s12 :: s13 :: v :: r) := rfl
theorem x_wv15 {s0 s1 s2 s3 s4 s5 s6 s7 s8 s9 s10 s11 s12 s13 s14 : Sl} {d : D} {v : Sl} {r : En} : wrSlot 15 v (s0 :: s1 :: s2 :: s3 :: s4 :: s5 :: s6 :: s7 :: s8 :: s9 :: s10 :: s11 :: s12 :: s13 :: s14 :: .val d :: r) = .ok () (s0 :: s1 :: s2 :: s3 :: s4 :: s5 :: s6 :: s7 :: s8 :: s9 :: s10 :: s11 :: s12 :: s13 :: s14 :: v :: r) := rfl
theorem x_wv16 {s0 s1 s2 s3 s4 s5 s6 s7 s8 s9 s10 s11 s12 s13 s14 s15 : Sl} {d : D} {v : Sl} {r : En} : wrSlot 16 v (s0 :: s1 :: s2 :: s3 :: s4 :: s5 :: s6 :: s7 :: s8 :: s9 :: s10 :: s11 :: s12 :: s13 :: s14 :: s15 :: .val d :: r) = .ok () (s0 :: s1 :: s2 :: s3 :: s4 :: s5 :: s6 :: s7 :: s8 :: s9 :: s10 :: s11 :: s12 :: s13 :: s14 :: s15 :: v :: r) := rfl
theorem x_wv17 {s0 s1 s2 s3 s4 s5 s6 s7 s8 s9 s10 s11 s12 s13 s14 s15 s16 : Sl} {d : D} {v : Sl} {r : En} : wrSlot 17 v (s0 :: s1 :: s2 :: s3 :: s4 :: s5 :: s6 :: s7 :: s8 :: s9 :: s10 :: s11 :: s12 :: s13 :: s14 :: s15 :: s16 :: .val d :: r) = .ok () (s0 :: s1 :: s2 :: s3 :: s4 :: s5 :: s6 :: s7 :: s8 :: s9 :: s10 :: s11 :: s12 :: s13 :: s14 :: s15 :: s16 :: v :: r) := rfl
theorem x_wv18 {s0 s1 s2 s3 s4 s5 s6 s7 s8 s9 s10 s11 s12 s13 s14 s15 s16 s17 : Sl} {d : D} {v : Sl} {r : En} : wrSlot 18 v (s0 :: s1 :: s2 :: s3 :: s4 :: s5 :: s6 :: s7 :: s8 :: s9 :: s10 :: s11 :: s12 :: s13 :: s14 :: s15 :: s16 :: s17 :: .val d :: r) = .ok () (s0 :: s1 :: s2 :: s3 :: s4 :: s5 :: s6 :: s7 :: s8 :: s9 :: s10 :: s11 :: s12 :: s13 :: s14 :: s15 :: s16 :: s17 :: v :: r) := rfl
theorem x_wv19 {s0 s1 s2 s3 s4 s5 s6 s7 s8 s9 s10 s11 s12 s13 s14 s15 s16 s17 s18 : Sl} {d : D} {v : Sl} {r : En} : wrSlot 19 v (s0 :: s1 :: s2 :: s3 :: s4 :: s5 :: s6 :: s7 :: s8 :: s9 :: s10 :: s11 :: s12 :: s13 :: s14 :: s15 :: s16 :: s17 :: s18 :: .val d :: r) = .ok () (s0 :: s1 :: s2 :: s3 :: s4 :: s5 :: s6 :: s7 :: s8 :: s9 :: s10 :: s11 :: s12 :: s13 :: s14 :: s15 :: s16 :: s17 :: s18 :: v :: r) := rfl
theorem x_wv20 {s0 s1 s2 s3 s4 s5 s6 s7 s8 s9 s10 s11 s12 s13 s14 s15 s16 s17 s18 s19 : Sl} {d : D} {v : Sl} {r : En} : wrSlot 20 v (s0 :: s1 :: s2 :: s3 :: s4 :: s5 :: s6 :: s7 :: s8 :: s9 :: s10 :: s11 :: s12 :: s13 :: s14 :: s15 :: s16 :: s17 :: s18 :: s19 :: .val d :: r) = .ok () (s0 :: s1 :: s2 :: s3 :: s4 :: s5 :: s6 :: s7 :: s8 :: s9 :: s10 :: s11 :: s12 :: s13 :: s14 :: s15 :: s16 :: s17 :: s18 :: s19 :: v :: r) := rfl
theorem x_wv21 {s0 s1 s2 s3 s4 s5 s6 s7 s8 s9 s10 s11 s12 s13 s14 s15 s16 s17 s18 s19 s20 : Sl} {d : D} {v : Sl} {r : En} : wrSlot 21 v (s0 :: s1 :: s2 :: s3 :: s4 :: s5 :: s6 :: s7 :: s8 :: s9 :: s10 :: s11 :: s12 :: s13 :: s14 :: s15 :: s16 :: s17 :: s18 :: s19 :: s20 :: .val d :: r) = .ok () (s0 :: s1 :: s2 :: s3 :: s4 :: s5 :: s6 :: s7 :: s8 :: s9 :: s10 :: s11 :: s12 :: s13 :: s14 :: s15 :: s16 :: s17 :: s18 :: s19 :: s20 :: v :: r) := rfl
theorem x_wv22 {s0 s1 s2 s3 s4 s5 s6 s7 s8 s9 s10 s11 s12 s13 s14 s15 s16 s17 s18 s19 s20 s21 : Sl} {d : D} {v : Sl} {r : En} : wrSlot 22 v (s0 :: s1 :: s2 :: s3 :: s4 :: s5 :: s6 :: s7 :: s8 :: s9 :: s10 :: s11 :: s12 :: s13 :: s14 :: s15 :: s16 :: s17 :: s18 :: s19 :: s20 :: s21 :: .val d :: r) = .ok () (s0 :: s1 :: s2 :: s3 :: s4 :: s5 :: s6 :: s7 :: s8 :: s9 :: s10 :: s11 :: s12 :: s13 :: s14 :: s15 :: s16 :: s17 :: s18 :: s19 :: s20 :: s21 :: v :: r) := rfl
theorem x_wv23 {s0 s1 s2 s3 s4 s5 s6 s7 s8 s9 s10 s11 s12 s13 s14 s15 s16 s17 s18 s19 s20 s21 s22 : Sl} {d : D} {v : Sl} {r : En} : wrSlot 23 v (s0 :: s1 :: s2 :: s3 :: s4 :: s5 :: s6 :: s7 :: s8 :: s9 :: s10 :: s11 :: s12 :: s13 :: s14 :: s15 :: s16 :: s17 :: s18 :: s19 :: s20 :: s21 :: s22 :: .val d :: r) = .ok () (s0 :: s1 :: s2 :: s3 :: s4 :: s5 :: s6 :: s7 :: s8 :: s9 :: s10 :: s11 :: s12 :: s13 :: s14 :: s15 :: s16 :: s17 :: s18 :: s19 :: s20 :: s21 :: s22 :: v :: r) := rfl
theorem x_wv24 {s0 s1 s2 s3 s4 s5 s6 s7 s8 s9 s10 s11 s12 s13 s14 s15 s16 s17 s18 s19 s20 s21 s22 s23 : Sl} {d : D} {v : Sl} {r : En} : wrSlot 24 v (s0 :: s1 :: s2 :: s3 :: s4 :: s5 :: s6 :: s7 :: s8 :: s9 :: s10 :: s11 :: s12 :: s13 :: s14 :: s15 :: s16 :: s17 :: s18 :: s19 :: s20 :: s21 :: s22 :: s23 :: .val d :: r) = .ok () (s0 :: s1 :: s2 :: s3 :: s4 :: s5 :: s6 :: s7 :: s8 :: s9 :: s10 :: s11 :: s12 :: s13 :: s14 :: s15 :: s16 :: s17 :: s18 :: s19 :: s20 :: s21 :: s22 :: s23 :: v :: r) := rfl
theorem x_wv25 {s0 s1 s2 s3 s4 s5 s6 s7 s8 s9 s10 s11 s12 s13 s14 s15 s16 s17 s18 s19 s20 s21 s22 s23 s24 : Sl} {d : D} {v : Sl} {r : En} : wrSlot 25 v (s0 :: s1 :: s2 :: s3 :: s4 :: s5 :: s6 :: s7 :: s8 :: s9 :: s10 :: s11 :: s12 :: s13 :: s14 :: s15 :: s16 :: s17 :: s18 :: s19 :: s20 :: s21 :: s22 :: s23 :: s24 :: .val d :: r) = .ok () (s0 :: s1 :: s2 :: s3 :: s4 :: s5 :: s6 :: s7 :: s8 :: s9 :: s10 :: s11 :: s12 :: s13 :: s14 :: s15 :: s16 :: s17 :: s18 :: s19 :: s20 :: s21 :: s22 :: s23 :: s24 :: v :: r) := rfl
theorem x_wo14 {s0 s1 s2 s3 s4 s5 s6 s7 s8 s9 s10 s11 s12 s13 : Sl} {ds : List D} {v : Sl} {r : En} : wrSlot 14 v (s0 :: s1 :: s2 :: s3 :: s4 :: s5 :: s6 :: s7 :: s8 :: s9 :: s10 :: s11 :: s12 :: s13 :: .own ds :: r) = .ok () (s0 :: s1 :: s2 :: s3 :: s4 :: s5 :: s6 :: s7 :: s8 :: s9 :: s10 :: s11 :: s12 :: s13 :: v :: r) := rfl
theorem x_wo15 {s0 s1 s2 s3 s4 s5 s6 s7 s8 s9 s10 s11 s12 s13 s14 : Sl} {ds : List D} {v : Sl} {r : En} : wrSlot 15 v (s0 :: s1 :: s2 :: s3 :: s4 :: s5 :: s6 :: s7 :: s8 :: s9 :: s10 :: s11 :: s12 :: s13 :: s14 :: .own ds :: r) = .ok () (s0 :: s1 :: s2 :: s3 :: s4 :: s5 :: s6 :: s7 :: s8 :: s9 :: s10 :: s11 :: s12 :: s13 :: s14 :: v :: r) := rfl
theorem x_wo16 {s0 s1 s2 s3 s4 s5 s6 s7 s8 s9 s10 s11 s12 s13 s14 s15 : Sl} {ds : List D} {v : Sl} {r : En} : wrSlot 16 v (s0 :: s1 :: s2 :: s3 :: s4 :: s5 :: s6 :: s7 :: s8 :: s9 :: s10 :: s11 :: s12 :: s13 :: s14 :: s15 :: .own ds :: r) = .ok () (s0 :: s1 :: s2 :: s3 :: s4 :: s5 :: s6 :: s7 :: s8 :: s9 :: s10 :: s11 :: s12 :: s13 :: s14 :: s15 :: v :: r) := rfl
theorem x_wo17 {s0 s1 s2 s3 s4 s5 s6 s7 s8 s9 s10 s11 s12 s13 s14 s15 s16 : Sl} {ds : List D} {v : Sl} {r : En} : wrSlot 17 v (s0 :: s1 :: s2 :: s3 :: s4 :: s5 :: s6 :: s7 :: s8 :: s9 :: s10 :: s11 :: s12 :: s13 :: s14 :: s15 :: s16 :: .own ds :: r) = .ok () (s0 :: s1 :: s2 :: s3 :: s4 :: s5 :: s6 :: s7 :: s8 :: s9 :: s10 :: s11 :: s12 :: s13 :: s14 :: s15 :: s16 :: v :: r) := rfl
theorem x_wo18 {s0 s1 s2 s3 s4 s5 s6 s7 s8 s9 s10 s11 s12 s13 s14 s15 s16 s17 : Sl} {ds : List D} {v : Sl} {r : En} : wrSlot 18 v (s0 :: s1 :: s2 :: s3 :: s4 :: s5 :: s6 :: s7 :: s8 :: s9 :: s10 :: s11 :: s12 :: s13 :: s14 :: s15 :: s16 :: s17 :: .own ds :: r) = .ok () (s0 :: s1 :: s2 :: s3 :: s4 :: s5 :: s6 :: s7 :: s8 :: s9 :: s10 :: s11 :: s12 :: s13 :: s14 :: s15 :: s16 :: s17 :: v :: r) := rfl
theorem x_wo19 {s0 s1 s2 s3 s4 s5 s6 s7 s8 s9 s10 s11 s12 s13 s14 s15 s16 s17 s18 : Sl} {ds : List D} {v : Sl} {r : En} : wrSlot 19 v (s0 :: s1 :: s2 :: s3 :: s4 :: s5 :: s6 :: s7 :: s8 :: s9 :: s10 :: s11 :: s12 :: s13 :: s14 :: s15 :: s16 :: s17 :: s18 :: .own ds :: r) = .ok () (s0 :: s1 :: s2 :: s3 :: s4 :: s5 :: s6 :: s7 :: s8 :: s9 :: s10 :: s11 :: s12 :: s13 :: s14 :: s15 :: s16 :: s17 :: s18 :: v :: r) := rfl
theorem x_wo20 {s0 s1 s2 s3 s4 s5 s6 s7 s8 s9 s10 s11 s12 s13 s14 s15 s16 s17 s18 s19 : Sl} {ds : List D} {v : Sl} {r : En} : wrSlot 20 v (s0 :: s1 :: s2 :: s3 :: s4 :: s5 :: s6 :: s7 :: s8 :: s9 :: s10 :: s11 :: s12 :: s13 :: s14 :: s15 :: s16 :: s17 :: s18 :: s19 :: .own ds :: r) = .ok () (s0 :: s1 :: s2 :: s3 :: s4 :: s5 :: s6 :: s7 :: s8 :: s9 :: s10 :: s11 :: s12 :: s13 :: s14 :: s15 :: s16 :: s17 :: s18 :: s19 :: v :: r) := rfl
theorem x_wo21 {s0 s1 s2 s3 s4 s5 s6 s7 s8 s9 s10 s11 s12 s13 s14 s15 s16 s17 s18 s19 s20 : Sl} {ds : List D} {v : Sl} {r : En} : wrSlot 21 v (s0 :: s1 :: s2 :: s3 :: s4 :: s5 :: s6 :: s7 :: s8 :: s9 :: s10 :: s11 :: s12 :: s13 :: s14 :: s15 :: s16 :: s17 :: s18 :: s19 :: s20 :: .own ds :: r) = .ok () (s0 :: s1 :: s2 :: s3 :: s4 :: s5 :: s6 :: s7 :: s8 :: s9 :: s10 :: s11 :: s12 :: s13 :: s14 :: s15 :: s16 :: s17 :: s18 :: s19 :: s20 :: v :: r) := rfl
theorem x_wo22 {s0 s1 s2 s3 s4 s5 s6 s7 s8 s9 s10 s11 s12 s13 s14 s15 s16 s17 s18 s19 s20 s21 : Sl} {ds : List D} {v : Sl} {r : En} : wrSlot 22 v (s0 :: s1 :: s2 :: s3 :: s4 :: s5 :: s6 :: s7 :: s8 :: s9 :: s10 :: s11 :: s12 :: s13 :: s14 :: s15 :: s16 :: s17 :: s18 :: s19 :: s20 :: s21 :: .own ds :: r) = .ok () (s0 :: s1 :: s2 :: s3 :: s4 :: s5 :: s6 :: s7 :: s8 :: s9 :: s10 :: s11 :: s12 :: s13 :: s14 :: s15 :: s16 :: s17 :: s18 :: s19 :: s20 :: s21 :: v :: r) := rfl
theorem x_wo23 {s0 s1 s2 s3 s4 s5 s6 s7 s8 s9 s10 s11 s12 s13 s14 s15 s16 s17 s18 s19 s20 s21 s22 : Sl} {ds : List D} {v : Sl} {r : En} : wrSlot 23 v (s0 :: s1 :: s2 :: s3 :: s4 :: s5 :: s6 :: s7 :: s8 :: s9 :: s10 :: s11 :: s12 :: s13 :: s14 :: s15 :: s16 :: s17 :: s18 :: s19 :: s20 :: s21 :: s22 :: .own ds :: r) = .ok () (s0 :: s1 :: s2 :: s3 :: s4 :: s5 :: s6 :: s7 :: s8 :: s9 :: s10 :: s11 :: s12 :: s13 :: s14 :: s15 :: s16 :: s17 :: s18 :: s19 :: s20 :: s21 :: s22 :: v :: r) := rfl
theorem x_wo24 {s0 s1 s2 s3 s4 s5 s6 s7 s8 s9 s10 s11 s12 s13 s14 s15 s16 s17 s18 s19 s20 s21 s22 s23 : Sl} {ds : List D} {v : Sl} {r : En} : wrSlot 24 v (s0 :: s1 :: s2 :: s3 :: s4 :: s5 :: s6 :: s7 :: s8 :: s9 :: s10 :: s11 :: s12 :: s13 :: s14 :: s15 :: s16 :: s17 :: s18 :: s19 :: s20 :: s21 :: s22 :: s23 :: .own ds :: r) = .ok () (s0 :: s1 :: s2 :: s3 :: s4 :: s5 :: s6 :: s7 :: s8 :: s9 :: s10 :: s11 :: s12 :: s13 :: s14 :: s15 :: s16 :: s17 :: s18 :: s19 :: s20 :: s21 :: s22 :: s23 :: v :: r) := rfl
theorem x_wo25 {s0 s1 s2 s3 s4 s5 s6 s7 s8 s9 s10 s11 s12 s13 s14 s15 s16 s17 s18 s19 s20 s21 s22 s23 s24 : Sl} {ds : List D} {v : Sl} {r : En} : wrSlot 25 v (s0 :: s1 :: s2 :: s3 :: s4 :: s5 :: s6 :: s7 :: s8 :: s9 :: s10 :: s11 :: s12 :: s13 :: s14 :: s15 :: s16 :: s17 :: s18 :: s19 :: s20 :: s21 :: s22 :: s23 :: s24 :: .own ds :: r) = .ok () (s0 :: s1 :: s2 :: s3 :: s4 :: s5 :: s6 :: s7 :: s8 :: s9 :: s10 :: s11 :: s12 :: s13 :: s14 :: s15 :: s16 :: s17 :: s18 :: s19 :: s20 :: s21 :: s22 :: s23 :: s24 :: v :: r) := rfl
theorem x_wn14 {s0 s1 s2 s3 s4 s5 s6 s7 s8 s9 s10 s11 s12 s13 : Sl} {v : Sl} {r : En} : wrSlot 14 v (s0 :: s1 :: s2 :: s3 :: s4 :: s5 :: s6 :: s7 :: s8 :: s9 :: s10 :: s11 :: s12 :: s13 :: .non :: r) = .ok () (s0 :: s1 :: s2 :: s3 :: s4 :: s5 :: s6 :: s7 :: s8 :: s9 :: s10 :: s11 :: s12 :: s13 :: v :: r) := rfl
theorem x_wn15 {s0 s1 s2 s3 s4 s5 s6 s7 s8 s9 s10 s11 s12 s13 s14 : Sl} {v : Sl} {r : En} : wrSlot 15 v (s0 :: s1 :: s2 :: s3 :: s4 :: s5 :: s6 :: s7 :: s8 :: s9 :: s10 :: s11 :: s12 :: s13 :: s14 :: .non :: r) = .ok () (s0 :: s1 :: s2 :: s3 :: s4 :: s5 :: s6 :: s7 :: s8 :: s9 :: s10 :: s11 :: s12 :: s13 :: s14 :: v :: r) := rfl
theorem x_wn16 {s0 s1 s2 s3 s4 s5 s6 s7 s8 s9 s10 s11 s12 s13 s14 s15 : Sl} {v : Sl} {r : En} : wrSlot 16 v (s0 :: s1 :: s2 :: s3 :: s4 :: s5 :: s6 :: s7 :: s8 :: s9 :: s10 :: s11 :: s12 :: s13 :: s14 :: s15 :: .non :: r) = .ok () (s0 :: s1 :: s2 :: s3 :: s4 :: s5 :: s6 :: s7 :: s8 :: s9 :: s10 :: s11 :: s12 :: s13 :: s14 :: s15 :: v :: r) := rfl
theorem x_wn17 {s0 s1 s2 s3 s4 s5 s6 s7 s8 s9 s10 s11 s12 s13 s14 s15 s16 : Sl} {v : Sl} {r : En} : wrSlot 17 v (s0 :: s1 :: s2 :: s3 :: s4 :: s5 :: s6 :: s7 :: s8 :: s9 :: s10 :: s11 :: s12 :: s13 :: s14 :: s15 :: s16 :: .non :: r) = .ok () (s0 :: s1 :: s2 :: s3 :: s4 :: s5 :: s6 :: s7 :: s8 :: s9 :: s10 :: s11 :: s12 :: s13 :: s14 :: s15 :: s16 :: v :: r) := rfl
theorem x_wn18 {s0 s1 s2 s3 s4 s5 s6 s7 s8 s9 s10 s11 s12 s13 s14 s15 s16 s17 : Sl} {v : Sl} {r : En} : wrSlot 18 v (s0 :: s1 :: s2 :: s3 :: s4 :: s5 :: s6 :: s7 :: s8 :: s9 :: s10 :: s11 :: s12 :: s13 :: s14 :: s15 :: s16 :: s17 :: .non :: r) = .ok () (s0 :: s1 :: s2 :: s3 :: s4 :: s5 :: s6 :: s7 :: s8 :: s9 :: s10 :: s11 :: s12 :: s13 :: s14 :: s15 :: s16 :: s17 :: v :: r) := rfl
theorem x_wn19 {s0 s1 s2 s3 s4 s5 s6 s7 s8 s9 s10 s11 s12 s13 s14 s15 s16 s17 s18 : Sl} {v : Sl} {r : En} : wrSlot 19 v (s0 :: s1 :: s2 :: s3 :: s4 :: s5 :: s6 :: s7 :: s8 :: s9 :: s10 :: s11 :: s12 :: s13 :: s14 :: s15 :: s16 :: s17 :: s18 :: .non :: r) = .ok () (s0 :: s1 :: s2 :: s3 :: s4 :: s5 :: s6 :: s7 :: s8 :: s9 :: s10 :: s11 :: s12 :: s13 :: s14 :: s15 :: s16 :: s17 :: s18 :: v :: r) := rfl
theorem x_wn20 {s0 s1 s2 s3 s4 s5 s6 s7 s8 s9 s10 s11 s12 s13 s14 s15 s16 s17 s18 s19 : Sl} {v : Sl} {r : En} : wrSlot 20 v (s0 :: s1 :: s2 :: s3 :: s4 :: s5 :: s6 :: s7 :: s8 :: s9 :: s10 :: s11 :: s12 :: s13 :: s14 :: s15 :: s16 :: s17 :: s18 :: s19 :: .non :: r) = .ok () (s0 :: s1 :: s2 :: s3 :: s4 :: s5 :: s6 :: s7 :: s8 :: s9 :: s10 :: s11 :: s12 :: s13 :: s14 :: s15 :: s16 :: s17 :: s18 :: s19 :: v :: r) := rfl
theorem x_wn21 {s0 s1 s2 s3 s4 s5 s6 s7 s8 s9 s10 s11 s12 s13 s14 s15 s16 s17 s18 s19 s20 : Sl} {v : Sl} {r : En} : wrSlot 21 v (s0 :: s1 :: s2 :: s3 :: s4 :: s5 :: s6 :: s7 :: s8 :: s9 :: s10 :: s11 :: s12 :: s13 :: s14 :: s15 :: s16 :: s17 :: s18 :: s19 :: s20 :: .non :: r) = .ok () (s0 :: s1 :: s2 :: s3 :: s4 :: s5 :: s6 :: s7 :: s8 :: s9 :: s10 :: s11 :: s12 :: s13 :: s14 :: s15 :: s16 :: s17 :: s18 :: s19 :: s20 :: v :: r) := rfl
theorem x_wn22 {s0 s1 s2 s3 s4 s5 s6 s7 s8 s9 s10 s11 s12 s13 s14 s15 s16 s17 s18 s19 s20 s21 : Sl} {v : Sl} {r : En} : wrSlot 22 v (s0 :: s1 :: s2 :: s3 :: s4 :: s5 :: s6 :: s7 :: s8 :: s9 :: s10 :: s11 :: s12 :: s13 :: s14 :: s15 :: s16 :: s17 :: s18 :: s19 :: s20 :: s21 :: .non :: r) = .ok () (s0 :: s1 :: s2 :: s3 :: s4 :: s5 :: s6 :: s7 :: s8 :: s9 :: s10 :: s11 :: s12 :: s13 :: s14 :: s15 :: s16 :: s17 :: s18 :: s19 :: s20 :: s21 :: v :: r) := rfl
theorem x_wn23 {s0 s1 s2 s3 s4 s5 s6 s7 s8 s9 s10 s11 s12 s13 s14 s15 s16 s17 s18 s19 s20 s21 s22 : Sl} {v : Sl} {r : En} : wrSlot 23 v (s0 :: s1 :: s2 :: s3 :: s4 :: s5 :: s6 :: s7 :: s8 :: s9 :: s10 :: s11 :: s12 :: s13 :: s14 :: s15 :: s16 :: s17 :: s18 :: s19 :: s20 :: s21 :: s22 :: .non :: r) = .ok () (s0 :: s1 :: s2 :: s3 :: s4 :: s5 :: s6 :: s7 :: s8 :: s9 :: s10 :: s11 :: s12 :: s13 :: s14 :: s15 :: s16 :: s17 :: s18 :: s19 :: s20 :: s21 :: s22 :: v :: r) := rfl
theorem x_wn24 {s0 s1 s2 s3 s4 s5 s6 s7 s8 s9 s10 s11 s12 s13 s14 s15 s16 s17 s18 s19 s20 s21 s22 s23 : Sl} {v : Sl} {r : En} : wrSlot 24 v (s0 :: s1 :: s2 :: s3 :: s4 :: s5 :: s6 :: s7 :: s8 :: s9 :: s10 :: s11 :: s12 :: s13 :: s14 :: s15 :: s16 :: s17 :: s18 :: s19 :: s20 :: s21 :: s22 :: s23 :: .non :: r) = .ok () (s0 :: s1 :: s2 :: s3 :: s4 :: s5 :: s6 :: s7 :: s8 :: s9 :: s10 :: s11 :: s12 :: s13 :: s14 :: s15 :: s16 :: s17 :: s18 :: s19 :: s20 :: s21 :: s22 :: s23 :: v :: r) := rfl
theorem x_wn25 {s0 s1 s2 s3 s4 s5 s6 s7 s8 s9 s10 s11 s12 s13 s14 s15 s16 s17 s18 s19 s20 s21 s22 s23 s24 : Sl} {v : Sl} {r : En} : wrSlot 25 v (s0 :: s1 :: s2 :: s3 :: s4 :: s5 :: s6 :: s7 :: s8 :: s9 :: s10 :: s11 :: s12 :: s13 :: s14 :: s15 :: s16 :: s17 :: s18 :: s19 :: s20 :: s21 :: s22 :: s23 :: s24 :: .non :: r) = .ok () (s0 :: s1 :: s2 :: s3 :: s4 :: s5 :: s6 :: s7 :: s8 :: s9 :: s10 :: s11 :: s12 :: s13 :: s14 :: s15 :: s16 :: s17 :: s18 :: s19 :: s20 :: s21 :: s22 :: s23 :: s24 :: v :: r) := rfl
theorem x_ixv14 {s0 s1 s2 s3 s4 s5 s6 s7 s8 s9 s10 s11 s12 s13 : Sl} {d : D} {r : En} (A I : M D) : ixN 14 A I (s0 :: s1 :: s2 :: s3 :: s4 :: s5 :: s6 :: s7 :: s8 :: s9 :: s10 :: s11 :: s12 :: s13 :: .val d :: r) = (A (s0 :: s1 :: s2 :: s3 :: s4 :: s5 :: s6 :: s7 :: s8 :: s9 :: s10 :: s11 :: s12 :: s13 :: .val d :: r)).andThen fun x e1 => (I e1).andThen fun y => opt (ixD x y) := rfl
theorem x_ixv15 {s0 s1 s2 s3 s4 s5 s6 s7 s8 s9 s10 s11 s12 s13 s14 : Sl} {d : D} {r : En} (A I : M D) : ixN 15 A I (s0 :: s1 :: s2 :: s3 :: s4 :: s5 :: s6 :: s7 :: s8 :: s9 :: s10 :: s11 :: s12 :: s13 :: s14 :: .val d :: r) = (A (s0 :: s1 :: s2 :: s3 :: s4 :: s5 :: s6 :: s7 :: s8 :: s9 :: s10 :: s11 :: s12 :: s13 :: s14 :: .val d :: r)).andThen fun x e1 => (I e1).andThen fun y => opt (ixD x y) := rfl
theorem x_ixv16 {s0 s1 s2 s3 s4 s5 s6 s7 s8 s9 s10 s11 s12 s13 s14 s15 : Sl} {d : D} {r : En} (A I : M D) : ixN 16 A I (s0 :: s1 :: s2 :: s3 :: s4 :: s5 :: s6 :: s7 :: s8 :: s9 :: s10 :: s11 :: s12 :: s13 :: s14 :: s15 :: .val d :: r) = (A (s0 :: s1 :: s2 :: s3 :: s4 :: s5 :: s6 :: s7 :: s8 :: s9 :: s10 :: s11 :: s12 :: s13 :: s14 :: s15 :: .val d :: r)).andThen fun x e1 => (I e1).andThen fun y => opt (ixD x y) := rfl
theorem x_ixv17 {s0 s1 s2 s3 s4 s5 s6 s7 s8 s9 s10 s11 s12 s13 s14 s15 s16 : Sl} {d : D} {r : En} (A I : M D) : ixN 17 A I (s0 :: s1 :: s2 :: s3 :: s4 :: s5 :: s6 :: s7 :: s8 :: s9 :: s10 :: s11 :: s12 :: s13 :: s14 :: s15 :: s16 :: .val d :: r) = (A (s0 :: s1 :: s2 :: s3 :: s4 :: s5 :: s6 :: s7 :: s8 :: s9 :: s10 :: s11 :: s12 :: s13 :: s14 :: s15 :: s16 :: .val d :: r)).andThen fun x e1 => (I e1).andThen fun y => opt (ixD x y) := rfl
theorem x_ixv18 {s0 s1 s2 s3 s4 s5 s6 s7 s8 s9 s10 s11 s12 s13 s14 s15 s16 s17 : Sl} {d : D} {r : En} (A I : M D) : ixN 18 A I (s0 :: s1 :: s2 :: s3 :: s4 :: s5 :: s6 :: s7 :: s8 :: s9 :: s10 :: s11 :: s12 :: s13 :: s14 :: s15 :: s16 :: s17 :: .val d :: r) = (A (s0 :: s1 :: s2 :: s3 :: s4 :: s5 :: s6 :: s7 :: s8 :: s9 :: s10 :: s11 :: s12 :: s13 :: s14 :: s15 :: s16 :: s17 :: .val d :: r)).andThen fun x e1 => (I e1).andThen fun y => opt (ixD x y) := rfl
theorem x_ixv19 {s0 s1 s2 s3 s4 s5 s6 s7 s8 s9 s10 s11 s12 s13 s14 s15 s16 s17 s18 : Sl} {d : D} {r : En} (A I : M D) : ixN 19 A I (s0 :: s1 :: s2 :: s3 :: s4 :: s5 :: s6 :: s7 :: s8 :: s9 :: s10 :: s11 :: s12 :: s13 :: s14 :: s15 :: s16 :: s17 :: s18 :: .val d :: r) = (A (s0 :: s1 :: s2 :: s3 :: s4 :: s5 :: s6 :: s7 :: s8 :: s9 :: s10 :: s11 :: s12 :: s13 :: s14 :: s15 :: s16 :: s17 :: s18 :: .val d :: r)).andThen fun x e1 => (I e1).andThen fun y => opt (ixD x y) := rfl
theorem x_ixv20 {s0 s1 s2 s3 s4 s5 s6 s7 s8 s9 s10 s11 s12 s13 s14 s15 s16 s17 s18 s19 : Sl} {d : D} {r : En} (A I : M D) : ixN 20 A I (s0 :: s1 :: s2 :: s3 :: s4 :: s5 :: s6 :: s7 :: s8 :: s9 :: s10 :: s11 :: s12 :: s13 :: s14 :: s15 :: s16 :: s17 :: s18 :: s19 :: .val d :: r) = (A (s0 :: s1 :: s2 :: s3 :: s4 :: s5 :: s6 :: s7 :: s8 :: s9 :: s10 :: s11 :: s12 :: s13 :: s14 :: s15 :: s16 :: s17 :: s18 :: s19 :: .val d :: r)).andThen fun x e1 => (I e1).andThen fun y => opt (ixD x y) := rfl
theorem x_ixv21 {s0 s1 s2 s3 s4 s5 s6 s7 s8 s9 s10 s11 s12 s13 s14 s15 s16 s17 s18 s19 s20 : Sl} {d : D} {r : En} (A I : M D) : ixN 21 A I (s0 :: s1 :: s2 :: s3 :: s4 :: s5 :: s6 :: s7 :: s8 :: s9 :: s10 :: s11 :: s12 :: s13 :: s14 :: s15 :: s16 :: s17 :: s18 :: s19 :: s20 :: .val d :: r) = (A (s0 :: s1 :: s2 :: s3 :: s4 :: s5 :: s6 :: s7 :: s8 :: s9 :: s10 :: s11 :: s12 :: s13 :: s14 :: s15 :: s16 :: s17 :: s18 :: s19 :: s20 :: .val d :: r)).andThen fun x e1 => (I e1).andThen fun y => opt (ixD x y) := rfl
theorem x_ixv22 {s0 s1 s2 s3 s4 s5 s6 s7 s8 s9 s10 s11 s12 s13 s14 s15 s16 s17 s18 s19 s20 s21 : Sl} {d : D} {r : En} (A I : M D) : ixN 22 A I (s0 :: s1 :: s2 :: s3 :: s4 :: s5 :: s6 :: s7 :: s8 :: s9 :: s10 :: s11 :: s12 :: s13 :: s14 :: s15 :: s16 :: s17 :: s18 :: s19 :: s20 :: s21 :: .val d :: r) = (A (s0 :: s1 :: s2 :: s3 :: s4 :: s5 :: s6 :: s7 :: s8 :: s9 :: s10 :: s11 :: s12 :: s13 :: s14 :: s15 :: s16 :: s17 :: s18 :: s19 :: s20 :: s21 :: .val d :: r)).andThen fun x e1 => (I e1).andThen fun y => opt (ixD x y) := rfl
theorem x_ixv23 {s0 s1 s2 s3 s4 s5 s6 s7 s8 s9 s10 s11 s12 s13 s14 s15 s16 s17 s18 s19 s20 s21 s22 : Sl} {d : D} {r : En} (A I : M D) : ixN 23 A I (s0 :: s1 :: s2 :: s3 :: s4 :: s5 :: s6 :: s7 :: s8 :: s9 :: s10 :: s11 :: s12 :: s13 :: s14 :: s15 :: s16 :: s17 :: s18 :: s19 :: s20 :: s21 :: s22 :: .val d :: r) = (A (s0 :: s1 :: s2 :: s3 :: s4 :: s5 :: s6 :: s7 :: s8 :: s9 :: s10 :: s11 :: s12 :: s13 :: s14 :: s15 :: s16 :: s17 :: s18 :: s19 :: s20 :: s21 :: s22 :: .val d :: r)).andThen fun x e1 => (I e1).andThen fun y => opt (ixD x y) := rfl
theorem x_ixv24 {s0 s1 s2 s3 s4 s5 s6 s7 s8 s9 s10 s11 s12 s13 s14 s15 s16 s17 s18 s19 s20 s21 s22 s23 : Sl} {d : D} {r : En} (A I : M D) : ixN 24 A I (s0 :: s1 :: s2 :: s3 :: s4 :: s5 :: s6 :: s7 :: s8 :: s9 :: s10 :: s11 :: s12 :: s13 :: s14 :: s15 :: s16 :: s17 :: s18 :: s19 :: s20 :: s21 :: s22 :: s23 :: .val d :: r) = (A (s0 :: s1 :: s2 :: s3 :: s4 :: s5 :: s6 :: s7 :: s8 :: s9 :: s10 :: s11 :: s12 :: s13 :: s14 :: s15 :: s16 :: s17 :: s18 :: s19 :: s20 :: s21 :: s22 :: s23 :: .val d :: r)).andThen fun x e1 => (I e1).andThen fun y => opt (ixD x y) := rfl
theorem x_ixv25 {s0 s1 s2 s3 s4 s5 s6 s7 s8 s9 s10 s11 s12 s13 s14 s15 s16 s17 s18 s19 s20 s21 s22 s23 s24 : Sl} {d : D} {r : En} (A I : M D) : ixN 25 A I (s0 :: s1 :: s2 :: s3 :: s4 :: s5 :: s6 :: s7 :: s8 :: s9 :: s10 :: s11 :: s12 :: s13 :: s14 :: s15 :: s16 :: s17 :: s18 :: s19 :: s20 :: s21 :: s22 :: s23 :: s24 :: .val d :: r) = (A (s0 :: s1 :: s2 :: s3 :: s4 :: s5 :: s6 :: s7 :: s8 :: s9 :: s10 :: s11 :: s12 :: s13 :: s14 :: s15 :: s16 :: s17 :: s18 :: s19 :: s20 :: s21 :: s22 :: s23 :: s24 :: .val d :: r)).andThen fun x e1 => (I e1).andThen fun y => opt (ixD x y) := rfl
theorem x_lnv14 {s0 s1 s2 s3 s4 s5 s6 s7 s8 s9 s10 s11 s12 s13 : Sl} {d : D} {r : En} (A : M D) : lenN 14 A (s0 :: s1 :: s2 :: s3 :: s4 :: s5 :: s6 :: s7 :: s8 :: s9 :: s10 :: s11 :: s12 :: s13 :: .val d :: r) = bfM lenD [A] (s0 :: s1 :: s2 :: s3 :: s4 :: s5 :: s6 :: s7 :: s8 :: s9 :: s10 :: s11 :: s12 :: s13 :: .val d :: r) := rfl
theorem x_lnv15 {s0 s1 s2 s3 s4 s5 s6 s7 s8 s9 s10 s11 s12 s13 s14 : Sl} {d : D} {r : En} (A : M D) : lenN 15 A (s0 :: s1 :: s2 :: s3 :: s4 :: s5 :: s6 :: s7 :: s8 :: s9 :: s10 :: s11 :: s12 :: s13 :: s14 :: .val d :: r) = bfM lenD [A] (s0 :: s1 :: s2 :: s3 :: s4 :: s5 :: s6 :: s7 :: s8 :: s9 :: s10 :: s11 :: s12 :: s13 :: s14 :: .val d :: r) := rfl
theorem x_lnv16 {s0 s1 s2 s3 s4 s5 s6 s7 s8 s9 s10 s11 s12 s13 s14 s15 : Sl} {d : D} {r : En} (A : M D) : lenN 16 A (s0 :: s1 :: s2 :: s3 :: s4 :: s5 :: s6 :: s7 :: s8 :: s9 :: s10 :: s11 :: s12 :: s13 :: s14 :: s15 :: .val d :: r) = bfM lenD [A] (s0 :: s1 :: s2 :: s3 :: s4 :: s5 :: s6 :: s7 :: s8 :: s9 :: s10 :: s11 :: s12 :: s13 :: s14 :: s15 :: .val d :: r) := rfl
theorem x_lnv17 {s0 s1 s2 s3 s4 s5 s6 s7 s8 s9 s10 s11 s12 s13 s14 s15 s16 : Sl} {d : D} {r : En} (A : M D) : lenN 17 A (s0 :: s1 :: s2 :: s3 :: s4 :: s5 :: s6 :: s7 :: s8 :: s9 :: s10 :: s11 :: s12 :: s13 :: s14 :: s15 :: s16 :: .val d :: r) = bfM lenD [A] (s0 :: s1 :: s2 :: s3 :: s4 :: s5 :: s6 :: s7 :: s8 :: s9 :: s10 :: s11 :: s12 :: s13 :: s14 :: s15 :: s16 :: .val d :: r) := rfl
theorem x_lnv18 {s0 s1 s2 s3 s4 s5 s6 s7 s8 s9 s10 s11 s12 s13 s14 s15 s16 s17 : Sl} {d : D} {r : En} (A : M D) : lenN 18 A (s0 :: s1 :: s2 :: s3 :: s4 :: s5 :: s6 :: s7 :: s8 :: s9 :: s10 :: s11 :: s12 :: s13 :: s14 :: s15 :: s16 :: s17 :: .val d :: r) = bfM lenD [A] (s0 :: s1 :: s2 :: s3 :: s4 :: s5 :: s6 :: s7 :: s8 :: s9 :: s10 :: s11 :: s12 :: s13 :: s14 :: s15 :: s16 :: s17 :: .val d :: r) := rfl
theorem x_lnv19 {s0 s1 s2 s3 s4 s5 s6 s7 s8 s9 s10 s11 s12 s13 s14 s15 s16 s17 s18 : Sl} {d : D} {r : En} (A : M D) : lenN 19 A (s0 :: s1 :: s2 :: s3 :: s4 :: s5 :: s6 :: s7 :: s8 :: s9 :: s10 :: s11 :: s12 :: s13 :: s14 :: s15 :: s16 :: s17 :: s18 :: .val d :: r) = bfM lenD [A] (s0 :: s1 :: s2 :: s3 :: s4 :: s5 :: s6 :: s7 :: s8 :: s9 :: s10 :: s11 :: s12 :: s13 :: s14 :: s15 :: s16 :: s17 :: s18 :: .val d :: r) := rfl
theorem x_lnv20 {s0 s1 s2 s3 s4 s5 s6 s7 s8 s9 s10 s11 s12 s13 s14 s15 s16 s17 s18 s19 : Sl} {d : D} {r : En} (A : M D) : lenN 20 A (s0 :: s1 :: s2 :: s3 :: s4 :: s5 :: s6 :: s7 :: s8 :: s9 :: s10 :: s11 :: s12 :: s13 :: s14 :: s15 :: s16 :: s17 :: s18 :: s19 :: .val d :: r) = bfM lenD [A] (s0 :: s1 :: s2 :: s3 :: s4 :: s5 :: s6 :: s7 :: s8 :: s9 :: s10 :: s11 :: s12 :: s13 :: s14 :: s15 :: s16 :: s17 :: s18 :: s19 :: .val d :: r) := rfl
theorem x_lnv21 {s0 s1 s2 s3 s4 s5 s6 s7 s8 s9 s10 s11 s12 s13 s14 s15 s16 s17 s18 s19 s20 : Sl} {d : D} {r : En} (A : M D) : lenN 21 A (s0 :: s1 :: s2 :: s3 :: s4 :: s5 :: s6 :: s7 :: s8 :: s9 :: s10 :: s11 :: s12 :: s13 :: s14 :: s15 :: s16 :: s17 :: s18 :: s19 :: s20 :: .val d :: r) = bfM lenD [A] (s0 :: s1 :: s2 :: s3 :: s4 :: s5 :: s6 :: s7 :: s8 :: s9 :: s10 :: s11 :: s12 :: s13 :: s14 :: s15 :: s16 :: s17 :: s18 :: s19 :: s20 :: .val d :: r) := rfl
theorem x_lnv22 {s0 s1 s2 s3 s4 s5 s6 s7 s8 s9 s10 s11 s12 s13 s14 s15 s16 s17 s18 s19 s20 s21 : Sl} {d : D} {r : En} (A : M D) : lenN 22 A (s0 :: s1 :: s2 :: s3 :: s4 :: s5 :: s6 :: s7 :: s8 :: s9 :: s10 :: s11 :: s12 :: s13 :: s14 :: s15 :: s16 :: s17 :: s18 :: s19 :: s20 :: s21 :: .val d :: r) = bfM lenD [A] (s0 :: s1 :: s2 :: s3 :: s4 :: s5 :: s6 :: s7 :: s8 :: s9 :: s10 :: s11 :: s12 :: s13 :: s14 :: s15 :: s16 :: s17 :: s18 :: s19 :: s20 :: s21 :: .val d :: r) := rfl
theorem x_lnv23 {s0 s1 s2 s3 s4 s5 s6 s7 s8 s9 s10 s11 s12 s13 s14 s15 s16 s17 s18 s19 s20 s21 s22 : Sl} {d : D} {r : En} (A : M D) : lenN 23 A (s0 :: s1 :: s2 :: s3 :: s4 :: s5 :: s6 :: s7 :: s8 :: s9 :: s10 :: s11 :: s12 :: s13 :: s14 :: s15 :: s16 :: s17 :: s18 :: s19 :: s20 :: s21 :: s22 :: .val d :: r) = bfM lenD [A] (s0 :: s1 :: s2 :: s3 :: s4 :: s5 :: s6 :: s7 :: s8 :: s9 :: s10 :: s11 :: s12 :: s13 :: s14 :: s15 :: s16 :: s17 :: s18 :: s19 :: s20 :: s21 :: s22 :: .val d :: r) := rfl
theorem x_lnv24 {s0 s1 s2 s3 s4 s5 s6 s7 s8 s9 s10 s11 s12 s13 s14 s15 s16 s17 s18 s19 s20 s21 s22 s23 : Sl} {d : D} {r : En} (A : M D) : lenN 24 A (s0 :: s1 :: s2 :: s3 :: s4 :: s5 :: s6 :: s7 :: s8 :: s9 :: s10 :: s11 :: s12 :: s13 :: s14 :: s15 :: s16 :: s17 :: s18 :: s19 :: s20 :: s21 :: s22 :: s23 :: .val d :: r) = bfM lenD [A] (s0 :: s1 :: s2 :: s3 :: s4 :: s5 :: s6 :: s7 :: s8 :: s9 :: s10 :: s11 :: s12 :: s13 :: s14 :: s15 :: s16 :: s17 :: s18 :: s19 :: s20 :: s21 :: s22 :: s23 :: .val d :: r) := rfl
theorem x_lnv25 {s0 s1 s2 s3 s4 s5 s6 s7 s8 s9 s10 s11 s12 s13 s14 s15 s16 s17 s18 s19 s20 s21 s22 s23 s24 : Sl} {d : D} {r : En} (A : M D) : lenN 25 A (s0 :: s1 :: s2 :: s3 :: s4 :: s5 :: s6 :: s7 :: s8 :: s9 :: s10 :: s11 :: s12 :: s13 :: s14 :: s15 :: s16 :: s17 :: s18 :: s19 :: s20 :: s21 :: s22 :: s23 :: s24 :: .val d :: r) = bfM lenD [A] (s0 :: s1 :: s2 :: s3 :: s4 :: s5 :: s6 :: s7 :: s8 :: s9 :: s10 :: s11 :: s12 :: s13 :: s14 :: s15 :: s16 :: s17 :: s18 :: s19 :: s20 :: s21 :: s22 :: s23 :: s24 :: .val d :: r) := rfl
theorem x_lno14 {s0 s1 s2 s3 s4 s5 s6 s7 s8 s9 s10 s11 s12 s13 : Sl} {ds : List D} {r : En} (A : M D) : lenN 14 A (s0 :: s1 :: s2 :: s3 :: s4 :: s5 :: s6 :: s7 :: s8 :: s9 :: s10 :: s11 :: s12 :: s13 :: .own ds :: r) = .ok (.int ds.length) (s0 :: s1 :: s2 :: s3 :: s4 :: s5 :: s6 :: s7 :: s8 :: s9 :: s10 :: s11 :: s12 :: s13 :: .own ds :: r) := rfl
theorem x_lno15 {s0 s1 s2 s3 s4 s5 s6 s7 s8 s9 s10 s11 s12 s13 s14 : Sl} {ds : List D} {r : En} (A : M D) : lenN 15 A (s0 :: s1 :: s2 :: s3 :: s4 :: s5 :: s6 :: s7 :: s8 :: s9 :: s10 :: s11 :: s12 :: s13 :: s14 :: .own ds :: r) = .ok (.int ds.length) (s0 :: s1 :: s2 :: s3 :: s4 :: s5 :: s6 :: s7 :: s8 :: s9 :: s10 :: s11 :: s12 :: s13 :: s14 :: .own ds :: r) := rfl
theorem x_lno16 {s0 s1 s2 s3 s4 s5 s6 s7 s8 s9 s10 s11 s12 s13 s14 s15 : Sl} {ds : List D} {r : En} (A : M D) : lenN 16 A (s0 :: s1 :: s2 :: s3 :: s4 :: s5 :: s6 :: s7 :: s8 :: s9 :: s10 :: s11 :: s12 :: s13 :: s14 :: s15 :: .own ds :: r) = .ok (.int ds.length) (s0 :: s1 :: s2 :: s3 :: s4 :: s5 :: s6 :: s7 :: s8 :: s9 :: s10 :: s11 :: s12 :: s13 :: s14 :: s15 :: .own ds :: r) := rfl
theorem x_lno17 {s0 s1 s2 s3 s4 s5 s6 s7 s8 s9 s10 s11 s12 s13 s14 s15 s16 : Sl} {ds : List D} {r : En} (A : M D) : lenN 17 A (s0 :: s1 :: s2 :: s3 :: s4 :: s5 :: s6 :: s7 :: s8 :: s9 :: s10 :: s11 :: s12 :: s13 :: s14 :: s15 :: s16 :: .own ds :: r) = .ok (.int ds.length) (s0 :: s1 :: s2 :: s3 :: s4 :: s5 :: s6 :: s7 :: s8 :: s9 :: s10 :: s11 :: s12 :: s13 :: s14 :: s15 :: s16 :: .own ds :: r) := rfl
theorem x_lno18 {s0 s1 s2 s3 s4 s5 s6 s7 s8 s9 s10 s11 s12 s13 s14 s15 s16 s17 : Sl} {ds : List D} {r : En} (A : M D) : lenN 18 A (s0 :: s1 :: s2 :: s3 :: s4 :: s5 :: s6 :: s7 :: s8 :: s9 :: s10 :: s11 :: s12 :: s13 :: s14 :: s15 :: s16 :: s17 :: .own ds :: r) = .ok (.int ds.length) (s0 :: s1 :: s2 :: s3 :: s4 :: s5 :: s6 :: s7 :: s8 :: s9 :: s10 :: s11 :: s12 :: s13 :: s14 :: s15 :: s16 :: s17 :: .own ds :: r) := rfl
theorem x_lno19 {s0 s1 s2 s3 s4 s5 s6 s7 s8 s9 s10 s11 s12 s13 s14 s15 s16 s17 s18 : Sl} {ds : List D} {r : En} (A : M D) : lenN 19 A (s0 :: s1 :: s2 :: s3 :: s4 :: s5 :: s6 :: s7 :: s8 :: s9 :: s10 :: s11 :: s12 :: s13 :: s14 :: s15 :: s16 :: s17 :: s18 :: .own ds :: r) = .ok (.int ds.length) (s0 :: s1 :: s2 :: s3 :: s4 :: s5 :: s6 :: s7 :: s8 :: s9 :: s10 :: s11 :: s12 :: s13 :: s14 :: s15 :: s16 :: s17 :: s18 :: .own ds :: r) := rfl
theorem x_lno20 {s0 s1 s2 s3 s4 s5 s6 s7 s8 s9 s10 s11 s12 s13 s14 s15 s16 s17 s18 s19 : Sl} {ds : List D} {r : En} (A : M D) : lenN 20 A (s0 :: s1 :: s2 :: s3 :: s4 :: s5 :: s6 :: s7 :: s8 :: s9 :: s10 :: s11 :: s12 :: s13 :: s14 :: s15 :: s16 :: s17 :: s18 :: s19 :: .own ds :: r) = .ok (.int ds.length) (s0 :: s1 :: s2 :: s3 :: s4 :: s5 :: s6 :: s7 :: s8 :: s9 :: s10 :: s11 :: s12 :: s13 :: s14 :: s15 :: s16 :: s17 :: s18 :: s19 :: .own ds :: r) := rfl
theorem x_lno21 {s0 s1 s2 s3 s4 s5 s6 s7 s8 s9 s10 s11 s12 s13 s14 s15 s16 s17 s18 s19 s20 : Sl} {ds : List D} {r : En} (A : M D) : lenN 21 A (s0 :: s1 :: s2 :: s3 :: s4 :: s5 :: s6 :: s7 :: s8 :: s9 :: s10 :: s11 :: s12 :: s13 :: s14 :: s15 :: s16 :: s17 :: s18 :: s19 :: s20 :: .own ds :: r) = .ok (.int ds.length) (s0 :: s1 :: s2 :: s3 :: s4 :: s5 :: s6 :: s7 :: s8 :: s9 :: s10 :: s11 :: s12 :: s13 :: s14 :: s15 :: s16 :: s17 :: s18 :: s19 :: s20 :: .own ds :: r) := rfl
theorem x_lno22 {s0 s1 s2 s3 s4 s5 s6 s7 s8 s9 s10 s11 s12 s13 s14 s15 s16 s17 s18 s19 s20 s21 : Sl} {ds : List D} {r : En} (A : M D) : lenN 22 A (s0 :: s1 :: s2 :: s3 :: s4 :: s5 :: s6 :: s7 :: s8 :: s9 :: s10 :: s11 :: s12 :: s13 :: s14 :: s15 :: s16 :: s17 :: s18 :: s19 :: s20 :: s21 :: .own ds :: r) = .ok (.int ds.length) (s0 :: s1 :: s2 :: s3 :: s4 :: s5 :: s6 :: s7 :: s8 :: s9 :: s10 :: s11 :: s12 :: s13 :: s14 :: s15 :: s16 :: s17 :: s18 :: s19 :: s20 :: s21 :: .own ds :: r) := rfl
theorem x_lno23 {s0 s1 s2 s3 s4 s5 s6 s7 s8 s9 s10 s11 s12 s13 s14 s15 s16 s17 s18 s19 s20 s21 s22 : Sl} {ds : List D} {r : En} (A : M D) : lenN 23 A (s0 :: s1 :: s2 :: s3 :: s4 :: s5 :: s6 :: s7 :: s8 :: s9 :: s10 :: s11 :: s12 :: s13 :: s14 :: s15 :: s16 :: s17 :: s18 :: s19 :: s20 :: s21 :: s22 :: .own ds :: r) = .ok (.int ds.length) (s0 :: s1 :: s2 :: s3 :: s4 :: s5 :: s6 :: s7 :: s8 :: s9 :: s10 :: s11 :: s12 :: s13 :: s14 :: s15 :: s16 :: s17 :: s18 :: s19 :: s20 :: s21 :: s22 :: .own ds :: r) := rfl
theorem x_lno24 {s0 s1 s2 s3 s4 s5 s6 s7 s8 s9 s10 s11 s12 s13 s14 s15 s16 s17 s18 s19 s20 s21 s22 s23 : Sl} {ds : List D} {r : En} (A : M D) : lenN 24 A (s0 :: s1 :: s2 :: s3 :: s4 :: s5 :: s6 :: s7 :: s8 :: s9 :: s10 :: s11 :: s12 :: s13 :: s14 :: s15 :: s16 :: s17 :: s18 :: s19 :: s20 :: s21 :: s22 :: s23 :: .own ds :: r) = .ok (.int ds.length) (s0 :: s1 :: s2 :: s3 :: s4 :: s5 :: s6 :: s7 :: s8 :: s9 :: s10 :: s11 :: s12 :: s13 :: s14 :: s15 :: s16 :: s17 :: s18 :: s19 :: s20 :: s21 :: s22 :: s23 :: .own ds :: r) := rfl
theorem x_lno25 {s0 s1 s2 s3 s4 s5 s6 s7 s8 s9 s10 s11 s12 s13 s14 s15 s16 s17 s18 s19 s20 s21 s22 s23 s24 : Sl} {ds : List D} {r : En} (A : M D) : lenN 25 A (s0 :: s1 :: s2 :: s3 :: s4 :: s5 :: s6 :: s7 :: s8 :: s9 :: s10 :: s11 :: s12 :: s13 :: s14 :: s15 :: s16 :: s17 :: s18 :: s19 :: s20 :: s21 :: s22 :: s23 :: s24 :: .own ds :: r) = .ok (.int ds.length) (s0 :: s1 :: s2 :: s3 :: s4 :: s5 :: s6 :: s7 :: s8 :: s9 :: s10 :: s11 :: s12 :: s13 :: s14 :: s15 :: s16 :: s17 :: s18 :: s19 :: s20 :: s21 :: s22 :: s23 :: s24 :: .own ds :: r) := rfl
theorem x_mtv14 {s0 s1 s2 s3 s4 s5 s6 s7 s8 s9 s10 s11 s12 s13 : Sl} {d : D} {r : En} (O : Nat → M D) (R : M D) : mtN 14 O R (s0 :: s1 :: s2 :: s3 :: s4 :: s5 :: s6 :: s7 :: s8 :: s9 :: s10 :: s11 :: s12 :: s13 :: .val d :: r) = R (s0 :: s1 :: s2 :: s3 :: s4 :: s5 :: s6 :: s7 :: s8 :: s9 :: s10 :: s11 :: s12 :: s13 :: .val d :: r) := rfl
theorem x_mtv15 {s0 s1 s2 s3 s4 s5 s6 s7 s8 s9 s10 s11 s12 s13 s14 : Sl} {d : D} {r : En} (O : Nat → M D) (R : M D) : mtN 15 O R (s0 :: s1 :: s2 :: s3 :: s4 :: s5 :: s6 :: s7 :: s8 :: s9 :: s10 :: s11 :: s12 :: s13 :: s14 :: .val d :: r) = R (s0 :: s1 :: s2 :: s3 :: s4 :: s5 :: s6 :: s7 :: s8 :: s9 :: s10 :: s11 :: s12 :: s13 :: s14 :: .val d :: r) := rfl
theorem x_mtv16 {s0 s1 s2 s3 s4 s5 s6 s7 s8 s9 s10 s11 s12 s13 s14 s15 : Sl} {d : D} {r : En} (O : Nat → M D) (R : M D) : mtN 16 O R (s0 :: s1 :: s2 :: s3 :: s4 :: s5 :: s6 :: s7 :: s8 :: s9 :: s10 :: s11 :: s12 :: s13 :: s14 :: s15 :: .val d :: r) = R (s0 :: s1 :: s2 :: s3 :: s4 :: s5 :: s6 :: s7 :: s8 :: s9 :: s10 :: s11 :: s12 :: s13 :: s14 :: s15 :: .val d :: r) := rfl
theorem x_mtv17 {s0 s1 s2 s3 s4 s5 s6 s7 s8 s9 s10 s11 s12 s13 s14 s15 s16 : Sl} {d : D} {r : En} (O : Nat → M D) (R : M D) : mtN 17 O R (s0 :: s1 :: s2 :: s3 :: s4 :: s5 :: s6 :: s7 :: s8 :: s9 :: s10 :: s11 :: s12 :: s13 :: s14 :: s15 :: s16 :: .val d :: r) = R (s0 :: s1 :: s2 :: s3 :: s4 :: s5 :: s6 :: s7 :: s8 :: s9 :: s10 :: s11 :: s12 :: s13 :: s14 :: s15 :: s16 :: .val d :: r) := rfl
theorem x_mtv18 {s0 s1 s2 s3 s4 s5 s6 s7 s8 s9 s10 s11 s12 s13 s14 s15 s16 s17 : Sl} {d : D} {r : En} (O : Nat → M D) (R : M D) : mtN 18 O R (s0 :: s1 :: s2 :: s3 :: s4 :: s5 :: s6 :: s7 :: s8 :: s9 :: s10 :: s11 :: s12 :: s13 :: s14 :: s15 :: s16 :: s17 :: .val d :: r) = R (s0 :: s1 :: s2 :: s3 :: s4 :: s5 :: s6 :: s7 :: s8 :: s9 :: s10 :: s11 :: s12 :: s13 :: s14 :: s15 :: s16 :: s17 :: .val d :: r) := rfl
theorem x_mtv19 {s0 s1 s2 s3 s4 s5 s6 s7 s8 s9 s10 s11 s12 s13 s14 s15 s16 s17 s18 : Sl} {d : D} {r : En} (O : Nat → M D) (R : M D) : mtN 19 O R (s0 :: s1 :: s2 :: s3 :: s4 :: s5 :: s6 :: s7 :: s8 :: s9 :: s10 :: s11 :: s12 :: s13 :: s14 :: s15 :: s16 :: s17 :: s18 :: .val d :: r) = R (s0 :: s1 :: s2 :: s3 :: s4 :: s5 :: s6 :: s7 :: s8 :: s9 :: s10 :: s11 :: s12 :: s13 :: s14 :: s15 :: s16 :: s17 :: s18 :: .val d :: r) := rfl
theorem x_mtv20 {s0 s1 s2 s3 s4 s5 s6 s7 s8 s9 s10 s11 s12 s13 s14 s15 s16 s17 s18 s19 : Sl} {d : D} {r : En} (O : Nat → M D) (R : M D) : mtN 20 O R (s0 :: s1 :: s2 :: s3 :: s4 :: s5 :: s6 :: s7 :: s8 :: s9 :: s10 :: s11 :: s12 :: s13 :: s14 :: s15 :: s16 :: s17 :: s18 :: s19 :: .val d :: r) = R (s0 :: s1 :: s2 :: s3 :: s4 :: s5 :: s6 :: s7 :: s8 :: s9 :: s10 :: s11 :: s12 :: s13 :: s14 :: s15 :: s16 :: s17 :: s18 :: s19 :: .val d :: r) := rfl
theorem x_mtv21 {s0 s1 s2 s3 s4 s5 s6 s7 s8 s9 s10 s11 s12 s13 s14 s15 s16 s17 s18 s19 s20 : Sl} {d : D} {r : En} (O : Nat → M D) (R : M D) : mtN 21 O R (s0 :: s1 :: s2 :: s3 :: s4 :: s5 :: s6 :: s7 :: s8 :: s9 :: s10 :: s11 :: s12 :: s13 :: s14 :: s15 :: s16 :: s17 :: s18 :: s19 :: s20 :: .val d :: r) = R (s0 :: s1 :: s2 :: s3 :: s4 :: s5 :: s6 :: s7 :: s8 :: s9 :: s10 :: s11 :: s12 :: s13 :: s14 :: s15 :: s16 :: s17 :: s18 :: s19 :: s20 :: .val d :: r) := rfl
theorem x_mtv22 {s0 s1 s2 s3 s4 s5 s6 s7 s8 s9 s10 s11 s12 s13 s14 s15 s16 s17 s18 s19 s20 s21 : Sl} {d : D} {r : En} (O : Nat → M D) (R : M D) : mtN 22 O R (s0 :: s1 :: s2 :: s3 :: s4 :: s5 :: s6 :: s7 :: s8 :: s9 :: s10 :: s11 :: s12 :: s13 :: s14 :: s15 :: s16 :: s17 :: s18 :: s19 :: s20 :: s21 :: .val d :: r) = R (s0 :: s1 :: s2 :: s3 :: s4 :: s5 :: s6 :: s7 :: s8 :: s9 :: s10 :: s11 :: s12 :: s13 :: s14 :: s15 :: s16 :: s17 :: s18 :: s19 :: s20 :: s21 :: .val d :: r) := rfl
theorem x_mtv23 {s0 s1 s2 s3 s4 s5 s6 s7 s8 s9 s10 s11 s12 s13 s14 s15 s16 s17 s18 s19 s20 s21 s22 : Sl} {d : D} {r : En} (O : Nat → M D) (R : M D) : mtN 23 O R (s0 :: s1 :: s2 :: s3 :: s4 :: s5 :: s6 :: s7 :: s8 :: s9 :: s10 :: s11 :: s12 :: s13 :: s14 :: s15 :: s16 :: s17 :: s18 :: s19 :: s20 :: s21 :: s22 :: .val d :: r) = R (s0 :: s1 :: s2 :: s3 :: s4 :: s5 :: s6 :: s7 :: s8 :: s9 :: s10 :: s11 :: s12 :: s13 :: s14 :: s15 :: s16 :: s17 :: s18 :: s19 :: s20 :: s21 :: s22 :: .val d :: r) := rfl
theorem x_mtv24 {s0 s1 s2 s3 s4 s5 s6 s7 s8 s9 s10 s11 s12 s13 s14 s15 s16 s17 s18 s19 s20 s21 s22 s23 : Sl} {d : D} {r : En} (O : Nat → M D) (R : M D) : mtN 24 O R (s0 :: s1 :: s2 :: s3 :: s4 :: s5 :: s6 :: s7 :: s8 :: s9 :: s10 :: s11 :: s12 :: s13 :: s14 :: s15 :: s16 :: s17 :: s18 :: s19 :: s20 :: s21 :: s22 :: s23 :: .val d :: r) = R (s0 :: s1 :: s2 :: s3 :: s4 :: s5 :: s6 :: s7 :: s8 :: s9 :: s10 :: s11 :: s12 :: s13 :: s14 :: s15 :: s16 :: s17 :: s18 :: s19 :: s20 :: s21 :: s22 :: s23 :: .val d :: r) := rfl
theorem x_mtv25 {s0 s1 s2 s3 s4 s5 s6 s7 s8 s9 s10 s11 s12 s13 s14 s15 s16 s17 s18 s19 s20 s21 s22 s23 s24 : Sl} {d : D} {r : En} (O : Nat → M D) (R : M D) : mtN 25 O R (s0 :: s1 :: s2 :: s3 :: s4 :: s5 :: s6 :: s7 :: s8 :: s9 :: s10 :: s11 :: s12 :: s13 :: s14 :: s15 :: s16 :: s17 :: s18 :: s19 :: s20 :: s21 :: s22 :: s23 :: s24 :: .val d :: r) = R (s0 :: s1 :: s2 :: s3 :: s4 :: s5 :: s6 :: s7 :: s8 :: s9 :: s10 :: s11 :: s12 :: s13 :: s14 :: s15 :: s16 :: s17 :: s18 :: s19 :: s20 :: s21 :: s22 :: s23 :: s24 :: .val d :: r) := rfl
theorem x_mto14 {s0 s1 s2 s3 s4 s5 s6 s7 s8 s9 s10 s11 s12 s13 : Sl} {ds : List D} {r : En} (O : Nat → M D) (R : M D) : mtN 14 O R (s0 :: s1 :: s2 :: s3 :: s4 :: s5 :: s6 :: s7 :: s8 :: s9 :: s10 :: s11 :: s12 :: s13 :: .own ds :: r) = O 14 (s0 :: s1 :: s2 :: s3 :: s4 :: s5 :: s6 :: s7 :: s8 :: s9 :: s10 :: s11 :: s12 :: s13 :: .own ds :: r) := rfl
theorem x_mto15 {s0 s1 s2 s3 s4 s5 s6 s7 s8 s9 s10 s11 s12 s13 s14 : Sl} {ds : List D} {r : En} (O : Nat → M D) (R : M D) : mtN 15 O R (s0 :: s1 :: s2 :: s3 :: s4 :: s5 :: s6 :: s7 :: s8 :: s9 :: s10 :: s11 :: s12 :: s13 :: s14 :: .own ds :: r) = O 15 (s0 :: s1 :: s2 :: s3 :: s4 :: s5 :: s6 :: s7 :: s8 :: s9 :: s10 :: s11 :: s12 :: s13 :: s14 :: .own ds :: r) := rfl
theorem x_mto16 {s0 s1 s2 s3 s4 s5 s6 s7 s8 s9 s10 s11 s12 s13 s14 s15 : Sl} {ds : List D} {r : En} (O : Nat → M D) (R : M D) : mtN 16 O R (s0 :: s1 :: s2 :: s3 :: s4 :: s5 :: s6 :: s7 :: s8 :: s9 :: s10 :: s11 :: s12 :: s13 :: s14 :: s15 :: .own ds :: r) = O 16 (s0 :: s1 :: s2 :: s3 :: s4 :: s5 :: s6 :: s7 :: s8 :: s9 :: s10 :: s11 :: s12 :: s13 :: s14 :: s15 :: .own ds :: r) := rfl
theorem x_mto17 {s0 s1 s2 s3 s4 s5 s6 s7 s8 s9 s10 s11 s12 s13 s14 s15 s16 : Sl} {ds : List D} {r : En} (O : Nat → M D) (R : M D) : mtN 17 O R (s0 :: s1 :: s2 :: s3 :: s4 :: s5 :: s6 :: s7 :: s8 :: s9 :: s10 :: s11 :: s12 :: s13 :: s14 :: s15 :: s16 :: .own ds :: r) = O 17 (s0 :: s1 :: s2 :: s3 :: s4 :: s5 :: s6 :: s7 :: s8 :: s9 :: s10 :: s11 :: s12 :: s13 :: s14 :: s15 :: s16 :: .own ds :: r) := rfl
theorem x_mto18 {s0 s1 s2 s3 s4 s5 s6 s7 s8 s9 s10 s11 s12 s13 s14 s15 s16 s17 : Sl} {ds : List D} {r : En} (O : Nat → M D) (R : M D) : mtN 18 O R (s0 :: s1 :: s2 :: s3 :: s4 :: s5 :: s6 :: s7 :: s8 :: s9 :: s10 :: s11 :: s12 :: s13 :: s14 :: s15 :: s16 :: s17 :: .own ds :: r) = O 18 (s0 :: s1 :: s2 :: s3 :: s4 :: s5 :: s6 :: s7 :: s8 :: s9 :: s10 :: s11 :: s12 :: s13 :: s14 :: s15 :: s16 :: s17 :: .own ds :: r) := rfl
theorem x_mto19 {s0 s1 s2 s3 s4 s5 s6 s7 s8 s9 s10 s11 s12 s13 s14 s15 s16 s17 s18 : Sl} {ds : List D} {r : En} (O : Nat → M D) (R : M D) : mtN 19 O R (s0 :: s1 :: s2 :: s3 :: s4 :: s5 :: s6 :: s7 :: s8 :: s9 :: s10 :: s11 :: s12 :: s13 :: s14 :: s15 :: s16 :: s17 :: s18 :: .own ds :: r) = O 19 (s0 :: s1 :: s2 :: s3 :: s4 :: s5 :: s6 :: s7 :: s8 :: s9 :: s10 :: s11 :: s12 :: s13 :: s14 :: s15 :: s16 :: s17 :: s18 :: .own ds :: r) := rfl
theorem x_mto20 {s0 s1 s2 s3 s4 s5 s6 s7 s8 s9 s10 s11 s12 s13 s14 s15 s16 s17 s18 s19 : Sl} {ds : List D} {r : En} (O : Nat → M D) (R : M D) : mtN 20 O R (s0 :: s1 :: s2 :: s3 :: s4 :: s5 :: s6 :: s7 :: s8 :: s9 :: s10 :: s11 :: s12 :: s13 :: s14 :: s15 :: s16 :: s17 :: s18 :: s19 :: .own ds :: r) = O 20 (s0 :: s1 :: s2 :: s3 :: s4 :: s5 :: s6 :: s7 :: s8 :: s9 :: s10 :: s11 :: s12 :: s13 :: s14 :: s15 :: s16 :: s17 :: s18 :: s19 :: .own ds :: r) := rfl
theorem x_mto21 {s0 s1 s2 s3 s4 s5 s6 s7 s8 s9 s10 s11 s12 s13 s14 s15 s16 s17 s18 s19 s20 : Sl} {ds : List D} {r : En} (O : Nat → M D) (R : M D) : mtN 21 O R (s0 :: s1 :: s2 :: s3 :: s4 :: s5 :: s6 :: s7 :: s8 :: s9 :: s10 :: s11 :: s12 :: s13 :: s14 :: s15 :: s16 :: s17 :: s18 :: s19 :: s20 :: .own ds :: r) = O 21 (s0 :: s1 :: s2 :: s3 :: s4 :: s5 :: s6 :: s7 :: s8 :: s9 :: s10 :: s11 :: s12 :: s13 :: s14 :: s15 :: s16 :: s17 :: s18 :: s19 :: s20 :: .own ds :: r) := rfl
theorem x_mto22 {s0 s1 s2 s3 s4 s5 s6 s7 s8 s9 s10 s11 s12 s13 s14 s15 s16 s17 s18 s19 s20 s21 : Sl} {ds : List D} {r : En} (O : Nat → M D) (R : M D) : mtN 22 O R (s0 :: s1 :: s2 :: s3 :: s4 :: s5 :: s6 :: s7 :: s8 :: s9 :: s10 :: s11 :: s12 :: s13 :: s14 :: s15 :: s16 :: s17 :: s18 :: s19 :: s20 :: s21 :: .own ds :: r) = O 22 (s0 :: s1 :: s2 :: s3 :: s4 :: s5 :: s6 :: s7 :: s8 :: s9 :: s10 :: s11 :: s12 :: s13 :: s14 :: s15 :: s16 :: s17 :: s18 :: s19 :: s20 :: s21 :: .own ds :: r) := rfl
theorem x_mto23 {s0 s1 s2 s3 s4 s5 s6 s7 s8 s9 s10 s11 s12 s13 s14 s15 s16 s17 s18 s19 s20 s21 s22 : Sl} {ds : List D} {r : En} (O : Nat → M D) (R : M D) : mtN 23 O R (s0 :: s1 :: s2 :: s3 :: s4 :: s5 :: s6 :: s7 :: s8 :: s9 :: s10 :: s11 :: s12 :: s13 :: s14 :: s15 :: s16 :: s17 :: s18 :: s19 :: s20 :: s21 :: s22 :: .own ds :: r) = O 23 (s0 :: s1 :: s2 :: s3 :: s4 :: s5 :: s6 :: s7 :: s8 :: s9 :: s10 :: s11 :: s12 :: s13 :: s14 :: s15 :: s16 :: s17 :: s18 :: s19 :: s20 :: s21 :: s22 :: .own ds :: r) := rfl
theorem x_mto24 {s0 s1 s2 s3 s4 s5 s6 s7 s8 s9 s10 s11 s12 s13 s14 s15 s16 s17 s18 s19 s20 s21 s22 s23 : Sl} {ds : List D} {r : En} (O : Nat → M D) (R : M D) : mtN 24 O R (s0 :: s1 :: s2 :: s3 :: s4 :: s5 :: s6 :: s7 :: s8 :: s9 :: s10 :: s11 :: s12 :: s13 :: s14 :: s15 :: s16 :: s17 :: s18 :: s19 :: s20 :: s21 :: s22 :: s23 :: .own ds :: r) = O 24 (s0 :: s1 :: s2 :: s3 :: s4 :: s5 :: s6 :: s7 :: s8 :: s9 :: s10 :: s11 :: s12 :: s13 :: s14 :: s15 :: s16 :: s17 :: s18 :: s19 :: s20 :: s21 :: s22 :: s23 :: .own ds :: r) := rfl
theorem x_mto25 {s0 s1 s2 s3 s4 s5 s6 s7 s8 s9 s10 s11 s12 s13 s14 s15 s16 s17 s18 s19 s20 s21 s22 s23 s24 : Sl} {ds : List D} {r : En} (O : Nat → M D) (R : M D) : mtN 25 O R (s0 :: s1 :: s2 :: s3 :: s4 :: s5 :: s6 :: s7 :: s8 :: s9 :: s10 :: s11 :: s12 :: s13 :: s14 :: s15 :: s16 :: s17 :: s18 :: s19 :: s20 :: s21 :: s22 :: s23 :: s24 :: .own ds :: r) = O 25 (s0 :: s1 :: s2 :: s3 :: s4 :: s5 :: s6 :: s7 :: s8 :: s9 :: s10 :: s11 :: s12 :: s13 :: s14 :: s15 :: s16 :: s17 :: s18 :: s19 :: s20 :: s21 :: s22 :: s23 :: s24 :: .own ds :: r) := rfl
theorem x_lt14 {s0 s1 s2 s3 s4 s5 s6 s7 s8 s9 s10 s11 s12 s13 : Sl} {ds : List D} {r : En} : lent 14 (s0 :: s1 :: s2 :: s3 :: s4 :: s5 :: s6 :: s7 :: s8 :: s9 :: s10 :: s11 :: s12 :: s13 :: .own ds :: r) = some ds := rfl
theorem x_lt15 {s0 s1 s2 s3 s4 s5 s6 s7 s8 s9 s10 s11 s12 s13 s14 : Sl} {ds : List D} {r : En} : lent 15 (s0 :: s1 :: s2 :: s3 :: s4 :: s5 :: s6 :: s7 :: s8 :: s9 :: s10 :: s11 :: s12 :: s13 :: s14 :: .own ds :: r) = some ds := rfl
theorem x_lt16 {s0 s1 s2 s3 s4 s5 s6 s7 s8 s9 s10 s11 s12 s13 s14 s15 : Sl} {ds : List D} {r : En} : lent 16 (s0 :: s1 :: s2 :: s3 :: s4 :: s5 :: s6 :: s7 :: s8 :: s9 :: s10 :: s11 :: s12 :: s13 :: s14 :: s15 :: .own ds :: r) = some ds := rfl
theorem x_lt17 {s0 s1 s2 s3 s4 s5 s6 s7 s8 s9 s10 s11 s12 s13 s14 s15 s16 : Sl} {ds : List D} {r : En} : lent 17 (s0 :: s1 :: s2 :: s3 :: s4 :: s5 :: s6 :: s7 :: s8 :: s9 :: s10 :: s11 :: s12 :: s13 :: s14 :: s15 :: s16 :: .own ds :: r) = some ds := rfl
theorem x_lt18 {s0 s1 s2 s3 s4 s5 s6 s7 s8 s9 s10 s11 s12 s13 s14 s15 s16 s17 : Sl} {ds : List D} {r : En} : lent 18 (s0 :: s1 :: s2 :: s3 :: s4 :: s5 :: s6 :: s7 :: s8 :: s9 :: s10 :: s11 :: s12 :: s13 :: s14 :: s15 :: s16 :: s17 :: .own ds :: r) = some ds := rfl
theorem x_lt19 {s0 s1 s2 s3 s4 s5 s6 s7 s8 s9 s10 s11 s12 s13 s14 s15 s16 s17 s18 : Sl} {ds : List D} {r : En} : lent 19 (s0 :: s1 :: s2 :: s3 :: s4 :: s5 :: s6 :: s7 :: s8 :: s9 :: s10 :: s11 :: s12 :: s13 :: s14 :: s15 :: s16 :: s17 :: s18 :: .own ds :: r) = some ds := rfl
theorem x_lt20 {s0 s1 s2 s3 s4 s5 s6 s7 s8 s9 s10 s11 s12 s13 s14 s15 s16 s17 s18 s19 : Sl} {ds : List D} {r : En} : lent 20 (s0 :: s1 :: s2 :: s3 :: s4 :: s5 :: s6 :: s7 :: s8 :: s9 :: s10 :: s11 :: s12 :: s13 :: s14 :: s15 :: s16 :: s17 :: s18 :: s19 :: .own ds :: r) = some ds := rfl
theorem x_lt21 {s0 s1 s2 s3 s4 s5 s6 s7 s8 s9 s10 s11 s12 s13 s14 s15 s16 s17 s18 s19 s20 : Sl} {ds : List D} {r : En} : lent 21 (s0 :: s1 :: s2 :: s3 :: s4 :: s5 :: s6 :: s7 :: s8 :: s9 :: s10 :: s11 :: s12 :: s13 :: s14 :: s15 :: s16 :: s17 :: s18 :: s19 :: s20 :: .own ds :: r) = some ds := rfl
theorem x_lt22 {s0 s1 s2 s3 s4 s5 s6 s7 s8 s9 s10 s11 s12 s13 s14 s15 s16 s17 s18 s19 s20 s21 : Sl} {ds : List D} {r : En} : lent 22 (s0 :: s1 :: s2 :: s3 :: s4 :: s5 :: s6 :: s7 :: s8 :: s9 :: s10 :: s11 :: s12 :: s13 :: s14 :: s15 :: s16 :: s17 :: s18 :: s19 :: s20 :: s21 :: .own ds :: r) = some ds := rfl
theorem x_lt23 {s0 s1 s2 s3 s4 s5 s6 s7 s8 s9 s10 s11 s12 s13 s14 s15 s16 s17 s18 s19 s20 s21 s22 : Sl} {ds : List D} {r : En} : lent 23 (s0 :: s1 :: s2 :: s3 :: s4 :: s5 :: s6 :: s7 :: s8 :: s9 :: s10 :: s11 :: s12 :: s13 :: s14 :: s15 :: s16 :: s17 :: s18 :: s19 :: s20 :: s21 :: s22 :: .own ds :: r) = some ds := rfl
theorem x_lt24 {s0 s1 s2 s3 s4 s5 s6 s7 s8 s9 s10 s11 s12 s13 s14 s15 s16 s17 s18 s19 s20 s21 s22 s23 : Sl} {ds : List D} {r : En} : lent 24 (s0 :: s1 :: s2 :: s3 :: s4 :: s5 :: s6 :: s7 :: s8 :: s9 :: s10 :: s11 :: s12 :: s13 :: s14 :: s15 :: s16 :: s17 :: s18 :: s19 :: s20 :: s21 :: s22 :: s23 :: .own ds :: r) = some ds := rfl
theorem x_lt25 {s0 s1 s2 s3 s4 s5 s6 s7 s8 s9 s10 s11 s12 s13 s14 s15 s16 s17 s18 s19 s20 s21 s22 s23 s24 : Sl} {ds : List D} {r : En} : lent 25 (s0 :: s1 :: s2 :: s3 :: s4 :: s5 :: s6 :: s7 :: s8 :: s9 :: s10 :: s11 :: s12 :: s13 :: s14 :: s15 :: s16 :: s17 :: s18 :: s19 :: s20 :: s21 :: s22 :: s23 :: s24 :: .own ds :: r) = some ds := rfl
theorem x_lp14 {s0 s1 s2 s3 s4 s5 s6 s7 s8 s9 s10 s11 s12 s13 : Sl} {ds : List D} {r : En} : lent 14 (s0 :: s1 :: s2 :: s3 :: s4 :: s5 :: s6 :: s7 :: s8 :: s9 :: s10 :: s11 :: s12 :: s13 :: .par ds :: r) = some ds := rfl
theorem x_lp15 {s0 s1 s2 s3 s4 s5 s6 s7 s8 s9 s10 s11 s12 s13 s14 : Sl} {ds : List D} {r : En} : lent 15 (s0 :: s1 :: s2 :: s3 :: s4 :: s5 :: s6 :: s7 :: s8 :: s9 :: s10 :: s11 :: s12 :: s13 :: s14 :: .par ds :: r) = some ds := rfl
theorem x_lp16 {s0 s1 s2 s3 s4 s5 s6 s7 s8 s9 s10 s11 s12 s13 s14 s15 : Sl} {ds : List D} {r : En} : lent 16 (s0 :: s1 :: s2 :: s3 :: s4 :: s5 :: s6 :: s7 :: s8 :: s9 :: s10 :: s11 :: s12 :: s13 :: s14 :: s15 :: .par ds :: r) = some ds := rfl
theorem x_lp17 {s0 s1 s2 s3 s4 s5 s6 s7 s8 s9 s10 s11 s12 s13 s14 s15 s16 : Sl} {ds : List D} {r : En} : lent 17 (s0 :: s1 :: s2 :: s3 :: s4 :: s5 :: s6 :: s7 :: s8 :: s9 :: s10 :: s11 :: s12 :: s13 :: s14 :: s15 :: s16 :: .par ds :: r) = some ds := rfl
theorem x_lp18 {s0 s1 s2 s3 s4 s5 s6 s7 s8 s9 s10 s11 s12 s13 s14 s15 s16 s17 : Sl} {ds : List D} {r : En} : lent 18 (s0 :: s1 :: s2 :: s3 :: s4 :: s5 :: s6 :: s7 :: s8 :: s9 :: s10 :: s11 :: s12 :: s13 :: s14 :: s15 :: s16 :: s17 :: .par ds :: r) = some ds := rfl
theorem x_lp19 {s0 s1 s2 s3 s4 s5 s6 s7 s8 s9 s10 s11 s12 s13 s14 s15 s16 s17 s18 : Sl} {ds : List D} {r : En} : lent 19 (s0 :: s1 :: s2 :: s3 :: s4 :: s5 :: s6 :: s7 :: s8 :: s9 :: s10 :: s11 :: s12 :: s13 :: s14 :: s15 :: s16 :: s17 :: s18 :: .par ds :: r) = some ds := rfl
theorem x_lp20 {s0 s1 s2 s3 s4 s5 s6 s7 s8 s9 s10 s11 s12 s13 s14 s15 s16 s17 s18 s19 : Sl} {ds : List D} {r : En} : lent 20 (s0 :: s1 :: s2 :: s3 :: s4 :: s5 :: s6 :: s7 :: s8 :: s9 :: s10 :: s11 :: s12 :: s13 :: s14 :: s15 :: s16 :: s17 :: s18 :: s19 :: .par ds :: r) = some ds := rfl
theorem x_lp21 {s0 s1 s2 s3 s4 s5 s6 s7 s8 s9 s10 s11 s12 s13 s14 s15 s16 s17 s18 s19 s20 : Sl} {ds : List D} {r : En} : lent 21 (s0 :: s1 :: s2 :: s3 :: s4 :: s5 :: s6 :: s7 :: s8 :: s9 :: s10 :: s11 :: s12 :: s13 :: s14 :: s15 :: s16 :: s17 :: s18 :: s19 :: s20 :: .par ds :: r) = some ds := rfl
theorem x_lp22 {s0 s1 s2 s3 s4 s5 s6 s7 s8 s9 s10 s11 s12 s13 s14 s15 s16 s17 s18 s19 s20 s21 : Sl} {ds : List D} {r : En} : lent 22 (s0 :: s1 :: s2 :: s3 :: s4 :: s5 :: s6 :: s7 :: s8 :: s9 :: s10 :: s11 :: s12 :: s13 :: s14 :: s15 :: s16 :: s17 :: s18 :: s19 :: s20 :: s21 :: .par ds :: r) = some ds := rfl
theorem x_lp23 {s0 s1 s2 s3 s4 s5 s6 s7 s8 s9 s10 s11 s12 s13 s14 s15 s16 s17 s18 s19 s20 s21 s22 : Sl} {ds : List D} {r : En} : lent 23 (s0 :: s1 :: s2 :: s3 :: s4 :: s5 :: s6 :: s7 :: s8 :: s9 :: s10 :: s11 :: s12 :: s13 :: s14 :: s15 :: s16 :: s17 :: s18 :: s19 :: s20 :: s21 :: s22 :: .par ds :: r) = some ds := rfl
theorem x_lp24 {s0 s1 s2 s3 s4 s5 s6 s7 s8 s9 s10 s11 s12 s13 s14 s15 s16 s17 s18 s19 s20 s21 s22 s23 : Sl} {ds : List D} {r : En} : lent 24 (s0 :: s1 :: s2 :: s3 :: s4 :: s5 :: s6 :: s7 :: s8 :: s9 :: s10 :: s11 :: s12 :: s13 :: s14 :: s15 :: s16 :: s17 :: s18 :: s19 :: s20 :: s21 :: s22 :: s23 :: .par ds :: r) = some ds := rfl
theorem x_lp25 {s0 s1 s2 s3 s4 s5 s6 s7 s8 s9 s10 s11 s12 s13 s14 s15 s16 s17 s18 s19 s20 s21 s22 s23 s24 : Sl} {ds : List D} {r : En} : lent 25 (s0 :: s1 :: s2 :: s3 :: s4 :: s5 :: s6 :: s7 :: s8 :: s9 :: s10 :: s11 :: s12 :: s13 :: s14 :: s15 :: s16 :: s17 :: s18 :: s19 :: s20 :: s21 :: s22 :: s23 :: s24 :: .par ds :: r) = some ds := rfl
theorem x_pt14 {s0 s1 s2 s3 s4 s5 s6 s7 s8 s9 s10 s11 s12 s13 : Sl} {ds es : List D} {r : En} : putL 14 es (s0 :: s1 :: s2 :: s3 :: s4 :: s5 :: s6 :: s7 :: s8 :: s9 :: s10 :: s11 :: s12 :: s13 :: .own ds :: r) = s0 :: s1 :: s2 :: s3 :: s4 :: s5 :: s6 :: s7 :: s8 :: s9 :: s10 :: s11 :: s12 :: s13 :: .own es :: r := rfl
theorem x_pt15 {s0 s1 s2 s3 s4 s5 s6 s7 s8 s9 s10 s11 s12 s13 s14 : Sl} {ds es : List D} {r : En} : putL 15 es (s0 :: s1 :: s2 :: s3 :: s4 :: s5 :: s6 :: s7 :: s8 :: s9 :: s10 :: s11 :: s12 :: s13 :: s14 :: .own ds :: r) = s0 :: s1 :: s2 :: s3 :: s4 :: s5 :: s6 :: s7 :: s8 :: s9 :: s10 :: s11 :: s12 :: s13 :: s14 :: .own es :: r := rfl
theorem x_pt16 {s0 s1 s2 s3 s4 s5 s6 s7 s8 s9 s10 s11 s12 s13 s14 s15 : Sl} {ds es : List D} {r : En} : putL 16 es (s0 :: s1 :: s2 :: s3 :: s4 :: s5 :: s6 :: s7 :: s8 :: s9 :: s10 :: s11 :: s12 :: s13 :: s14 :: s15 :: .own ds :: r) = s0 :: s1 :: s2 :: s3 :: s4 :: s5 :: s6 :: s7 :: s8 :: s9 :: s10 :: s11 :: s12 :: s13 :: s14 :: s15 :: .own es :: r := rfl
theorem x_pt17 {s0 s1 s2 s3 s4 s5 s6 s7 s8 s9 s10 s11 s12 s13 s14 s15 s16 : Sl} {ds es : List D} {r : En} : putL 17 es (s0 :: s1 :: s2 :: s3 :: s4 :: s5 :: s6 :: s7 :: s8 :: s9 :: s10 :: s11 :: s12 :: s13 :: s14 :: s15 :: s16 :: .own ds :: r) = s0 :: s1 :: s2 :: s3 :: s4 :: s5 :: s6 :: s7 :: s8 :: s9 :: s10 :: s11 :: s12 :: s13 :: s14 :: s15 :: s16 :: .own es :: r := rfl
theorem x_pt18 {s0 s1 s2 s3 s4 s5 s6 s7 s8 s9 s10 s11 s12 s13 s14 s15 s16 s17 : Sl} {ds es : List D} {r : En} : putL 18 es (s0 :: s1 :: s2 :: s3 :: s4 :: s5 :: s6 :: s7 :: s8 :: s9 :: s10 :: s11 :: s12 :: s13 :: s14 :: s15 :: s16 :: s17 :: .own ds :: r) = s0 :: s1 :: s2 :: s3 :: s4 :: s5 :: s6 :: s7 :: s8 :: s9 :: s10 :: s11 :: s12 :: s13 :: s14 :: s15 :: s16 :: s17 :: .own es :: r := rfl
theorem x_pt19 {s0 s1 s2 s3 s4 s5 s6 s7 s8 s9 s10 s11 s12 s13 s14 s15 s16 s17 s18 : Sl} {ds es : List D} {r : En} : putL 19 es (s0 :: s1 :: s2 :: s3 :: s4 :: s5 :: s6 :: s7 :: s8 :: s9 :: s10 :: s11 :: s12 :: s13 :: s14 :: s15 :: s16 :: s17 :: s18 :: .own ds :: r) = s0 :: s1 :: s2 :: s3 :: s4 :: s5 :: s6 :: s7 :: s8 :: s9 :: s10 :: s11 :: s12 :: s13 :: s14 :: s15 :: s16 :: s17 :: s18 :: .own es :: r := rfl
theorem x_pt20 {s0 s1 s2 s3 s4 s5 s6 s7 s8 s9 s10 s11 s12 s13 s14 s15 s16 s17 s18 s19 : Sl} {ds es : List D} {r : En} : putL 20 es (s0 :: s1 :: s2 :: s3 :: s4 :: s5 :: s6 :: s7 :: s8 :: s9 :: s10 :: s11 :: s12 :: s13 :: s14 :: s15 :: s16 :: s17 :: s18 :: s19 :: .own ds :: r) = s0 :: s1 :: s2 :: s3 :: s4 :: s5 :: s6 :: s7 :: s8 :: s9 :: s10 :: s11 :: s12 :: s13 :: s14 :: s15 :: s16 :: s17 :: s18 :: s19 :: .own es :: r := rfl
theorem x_pt21 {s0 s1 s2 s3 s4 s5 s6 s7 s8 s9 s10 s11 s12 s13 s14 s15 s16 s17 s18 s19 s20 : Sl} {ds es : List D} {r : En} : putL 21 es (s0 :: s1 :: s2 :: s3 :: s4 :: s5 :: s6 :: s7 :: s8 :: s9 :: s10 :: s11 :: s12 :: s13 :: s14 :: s15 :: s16 :: s17 :: s18 :: s19 :: s20 :: .own ds :: r) = s0 :: s1 :: s2 :: s3 :: s4 :: s5 :: s6 :: s7 :: s8 :: s9 :: s10 :: s11 :: s12 :: s13 :: s14 :: s15 :: s16 :: s17 :: s18 :: s19 :: s20 :: .own es :: r := rfl
theorem x_pt22 {s0 s1 s2 s3 s4 s5 s6 s7 s8 s9 s10 s11 s12 s13 s14 s15 s16 s17 s18 s19 s20 s21 : Sl} {ds es : List D} {r : En} : putL 22 es (s0 :: s1 :: s2 :: s3 :: s4 :: s5 :: s6 :: s7 :: s8 :: s9 :: s10 :: s11 :: s12 :: s13 :: s14 :: s15 :: s16 :: s17 :: s18 :: s19 :: s20 :: s21 :: .own ds :: r) = s0 :: s1 :: s2 :: s3 :: s4 :: s5 :: s6 :: s7 :: s8 :: s9 :: s10 :: s11 :: s12 :: s13 :: s14 :: s15 :: s16 :: s17 :: s18 :: s19 :: s20 :: s21 :: .own es :: r := rfl
theorem x_pt23 {s0 s1 s2 s3 s4 s5 s6 s7 s8 s9 s10 s11 s12 s13 s14 s15 s16 s17 s18 s19 s20 s21 s22 : Sl} {ds es : List D} {r : En} : putL 23 es (s0 :: s1 :: s2 :: s3 :: s4 :: s5 :: s6 :: s7 :: s8 :: s9 :: s10 :: s11 :: s12 :: s13 :: s14 :: s15 :: s16 :: s17 :: s18 :: s19 :: s20 :: s21 :: s22 :: .own ds :: r) = s0 :: s1 :: s2 :: s3 :: s4 :: s5 :: s6 :: s7 :: s8 :: s9 :: s10 :: s11 :: s12 :: s13 :: s14 :: s15 :: s16 :: s17 :: s18 :: s19 :: s20 :: s21 :: s22 :: .own es :: r := rfl
theorem x_pt24 {s0 s1 s2 s3 s4 s5 s6 s7 s8 s9 s10 s11 s12 s13 s14 s15 s16 s17 s18 s19 s20 s21 s22 s23 : Sl} {ds es : List D} {r : En} : putL 24 es (s0 :: s1 :: s2 :: s3 :: s4 :: s5 :: s6 :: s7 :: s8 :: s9 :: s10 :: s11 :: s12 :: s13 :: s14 :: s15 :: s16 :: s17 :: s18 :: s19 :: s20 :: s21 :: s22 :: s23 :: .own ds :: r) = s0 :: s1 :: s2 :: s3 :: s4 :: s5 :: s6 :: s7 :: s8 :: s9 :: s10 :: s11 :: s12 :: s13 :: s14 :: s15 :: s16 :: s17 :: s18 :: s19 :: s20 :: s21 :: s22 :: s23 :: .own es :: r := rfl
theorem x_pt25 {s0 s1 s2 s3 s4 s5 s6 s7 s8 s9 s10 s11 s12 s13 s14 s15 s16 s17 s18 s19 s20 s21 s22 s23 s24 : Sl} {ds es : List D} {r : En} : putL 25 es (s0 :: s1 :: s2 :: s3 :: s4 :: s5 :: s6 :: s7 :: s8 :: s9 :: s10 :: s11 :: s12 :: s13 :: s14 :: s15 :: s16 :: s17 :: s18 :: s19 :: s20 :: s21 :: s22 :: s23 :: s24 :: .own ds :: r) = s0 :: s1 :: s2 :: s3 :: s4 :: s5 :: s6 :: s7 :: s8 :: s9 :: s10 :: s11 :: s12 :: s13 :: s14 :: s15 :: s16 :: s17 :: s18 :: s19 :: s20 :: s21 :: s22 :: s23 :: s24 :: .own es :: r := rfl
theorem x_pp14 {s0 s1 s2 s3 s4 s5 s6 s7 s8 s9 s10 s11 s12 s13 : Sl} {ds es : List D} {r : En} : putL 14 es (s0 :: s1 :: s2 :: s3 :: s4 :: s5 :: s6 :: s7 :: s8 :: s9 :: s10 :: s11 :: s12 :: s13 :: .par ds :: r) = s0 :: s1 :: s2 :: s3 :: s4 :: s5 :: s6 :: s7 :: s8 :: s9 :: s10 :: s11 :: s12 :: s13 :: .par es :: r := rfl
theorem x_pp15 {s0 s1 s2 s3 s4 s5 s6 s7 s8 s9 s10 s11 s12 s13 s14 : Sl} {ds es : List D} {r : En} : putL 15 es (s0 :: s1 :: s2 :: s3 :: s4 :: s5 :: s6 :: s7 :: s8 :: s9 :: s10 :: s11 :: s12 :: s13 :: s14 :: .par ds :: r) = s0 :: s1 :: s2 :: s3 :: s4 :: s5 :: s6 :: s7 :: s8 :: s9 :: s10 :: s11 :: s12 :: s13 :: s14 :: .par es :: r := rfl
theorem x_pp16 {s0 s1 s2 s3 s4 s5 s6 s7 s8 s9 s10 s11 s12 s13 s14 s15 : Sl} {ds es : List D} {r : En} : putL 16 es (s0 :: s1 :: s2 :: s3 :: s4 :: s5 :: s6 :: s7 :: s8 :: s9 :: s10 :: s11 :: s12 :: s13 :: s14 :: s15 :: .par ds :: r) = s0 :: s1 :: s2 :: s3 :: s4 :: s5 :: s6 :: s7 :: s8 :: s9 :: s10 :: s11 :: s12 :: s13 :: s14 :: s15 :: .par es :: r := rfl
theorem x_pp17 {s0 s1 s2 s3 s4 s5 s6 s7 s8 s9 s10 s11 s12 s13 s14 s15 s16 : Sl} {ds es : List D} {r : En} : putL 17 es (s0 :: s1 :: s2 :: s3 :: s4 :: s5 :: s6 :: s7 :: s8 :: s9 :: s10 :: s11 :: s12 :: s13 :: s14 :: s15 :: s16 :: .par ds :: r) = s0 :: s1 :: s2 :: s3 :: s4 :: s5 :: s6 :: s7 :: s8 :: s9 :: s10 :: s11 :: s12 :: s13 :: s14 :: s15 :: s16 :: .par es :: r := rfl
theorem x_pp18 {s0 s1 s2 s3 s4 s5 s6 s7 s8 s9 s10 s11 s12 s13 s14 s15 s16 s17 : Sl} {ds es : List D} {r : En} : putL 18 es (s0 :: s1 :: s2 :: s3 :: s4 :: s5 :: s6 :: s7 :: s8 :: s9 :: s10 :: s11 :: s12 :: s13 :: s14 :: s15 :: s16 :: s17 :: .par ds :: r) = s0 :: s1 :: s2 :: s3 :: s4 :: s5 :: s6 :: s7 :: s8 :: s9 :: s10 :: s11 :: s12 :: s13 :: s14 :: s15 :: s16 :: s17 :: .par es :: r := rfl
theorem x_pp19 {s0 s1 s2 s3 s4 s5 s6 s7 s8 s9 s10 s11 s12 s13 s14 s15 s16 s17 s18 : Sl} {ds es : List D} {r : En} : putL 19 es (s0 :: s1 :: s2 :: s3 :: s4 :: s5 :: s6 :: s7 :: s8 :: s9 :: s10 :: s11 :: s12 :: s13 :: s14 :: s15 :: s16 :: s17 :: s18 :: .par ds :: r) = s0 :: s1 :: s2 :: s3 :: s4 :: s5 :: s6 :: s7 :: s8 :: s9 :: s10 :: s11 :: s12 :: s13 :: s14 :: s15 :: s16 :: s17 :: s18 :: .par es :: r := rfl
theorem x_pp20 {s0 s1 s2 s3 s4 s5 s6 s7 s8 s9 s10 s11 s12 s13 s14 s15 s16 s17 s18 s19 : Sl} {ds es : List D} {r : En} : putL 20 es (s0 :: s1 :: s2 :: s3 :: s4 :: s5 :: s6 :: s7 :: s8 :: s9 :: s10 :: s11 :: s12 :: s13 :: s14 :: s15 :: s16 :: s17 :: s18 :: s19 :: .par ds :: r) = s0 :: s1 :: s2 :: s3 :: s4 :: s5 :: s6 :: s7 :: s8 :: s9 :: s10 :: s11 :: s12 :: s13 :: s14 :: s15 :: s16 :: s17 :: s18 :: s19 :: .par es :: r := rfl
theorem x_pp21 {s0 s1 s2 s3 s4 s5 s6 s7 s8 s9 s10 s11 s12 s13 s14 s15 s16 s17 s18 s19 s20 : Sl} {ds es : List D} {r : En} : putL 21 es (s0 :: s1 :: s2 :: s3 :: s4 :: s5 :: s6 :: s7 :: s8 :: s9 :: s10 :: s11 :: s12 :: s13 :: s14 :: s15 :: s16 :: s17 :: s18 :: s19 :: s20 :: .par ds :: r) = s0 :: s1 :: s2 :: s3 :: s4 :: s5 :: s6 :: s7 :: s8 :: s9 :: s10 :: s11 :: s12 :: s13 :: s14 :: s15 :: s16 :: s17 :: s18 :: s19 :: s20 :: .par es :: r := rfl
theorem x_pp22 {s0 s1 s2 s3 s4 s5 s6 s7 s8 s9 s10 s11 s12 s13 s14 s15 s16 s17 s18 s19 s20 s21 : Sl} {ds es : List D} {r : En} : putL 22 es (s0 :: s1 :: s2 :: s3 :: s4 :: s5 :: s6 :: s7 :: s8 :: s9 :: s10 :: s11 :: s12 :: s13 :: s14 :: s15 :: s16 :: s17 :: s18 :: s19 :: s20 :: s21 :: .par ds :: r) = s0 :: s1 :: s2 :: s3 :: s4 :: s5 :: s6 :: s7 :: s8 :: s9 :: s10 :: s11 :: s12 :: s13 :: s14 :: s15 :: s16 :: s17 :: s18 :: s19 :: s20 :: s21 :: .par es :: r := rfl
theorem x_pp23 {s0 s1 s2 s3 s4 s5 s6 s7 s8 s9 s10 s11 s12 s13 s14 s15 s16 s17 s18 s19 s20 s21 s22 : Sl} {ds es : List D} {r : En} : putL 23 es (s0 :: s1 :: s2 :: s3 :: s4 :: s5 :: s6 :: s7 :: s8 :: s9 :: s10 :: s11 :: s12 :: s13 :: s14 :: s15 :: s16 :: s17 :: s18 :: s19 :: s20 :: s21 :: s22 :: .par ds :: r) = s0 :: s1 :: s2 :: s3 :: s4 :: s5 :: s6 :: s7 :: s8 :: s9 :: s10 :: s11 :: s12 :: s13 :: s14 :: s15 :: s16 :: s17 :: s18 :: s19 :: s20 :: s21 :: s22 :: .par es :: r := rfl
theorem x_pp24 {s0 s1 s2 s3 s4 s5 s6 s7 s8 s9 s10 s11 s12 s13 s14 s15 s16 s17 s18 s19 s20 s21 s22 s23 : Sl} {ds es : List D} {r : En} : putL 24 es (s0 :: s1 :: s2 :: s3 :: s4 :: s5 :: s6 :: s7 :: s8 :: s9 :: s10 :: s11 :: s12 :: s13 :: s14 :: s15 :: s16 :: s17 :: s18 :: s19 :: s20 :: s21 :: s22 :: s23 :: .par ds :: r) = s0 :: s1 :: s2 :: s3 :: s4 :: s5 :: s6 :: s7 :: s8 :: s9 :: s10 :: s11 :: s12 :: s13 :: s14 :: s15 :: s16 :: s17 :: s18 :: s19 :: s20 :: s21 :: s22 :: s23 :: .par es :: r := rfl
theorem x_pp25 {s0 s1 s2 s3 s4 s5 s6 s7 s8 s9 s10 s11 s12 s13 s14 s15 s16 s17 s18 s19 s20 s21 s22 s23 s24 : Sl} {ds es : List D} {r : En} : putL 25 es (s0 :: s1 :: s2 :: s3 :: s4 :: s5 :: s6 :: s7 :: s8 :: s9 :: s10 :: s11 :: s12 :: s13 :: s14 :: s15 :: s16 :: s17 :: s18 :: s19 :: s20 :: s21 :: s22 :: s23 :: s24 :: .par ds :: r) = s0 :: s1 :: s2 :: s3 :: s4 :: s5 :: s6 :: s7 :: s8 :: s9 :: s10 :: s11 :: s12 :: s13 :: s14 :: s15 :: s16 :: s17 :: s18 :: s19 :: s20 :: s21 :: s22 :: s23 :: s24 :: .par es :: r := rfl
theorem x_cp14 {s0 s1 s2 s3 s4 s5 s6 s7 s8 s9 s10 s11 s12 s13 : Sl} {cs : List D} {r : En} (call : Str → En → Res D) (g : Str) (A : M D) : callP call g 2 14 [A] (s0 :: s1 :: s2 :: s3 :: s4 :: s5 :: s6 :: s7 :: s8 :: s9 :: s10 :: s11 :: s12 :: s13 :: .own cs :: r) = (A (s0 :: s1 :: s2 :: s3 :: s4 :: s5 :: s6 :: s7 :: s8 :: s9 :: s10 :: s11 :: s12 :: s13 :: .own cs :: r)).andThen fun a e1 => match lent 14 e1 with
  | some cs => (call g [.par cs, .val a]).lentTo 14 e1
  | none => .bad := x_callP2 call g 14 A _ rfl
theorem x_cp15 {s0 s1 s2 s3 s4 s5 s6 s7 s8 s9 s10 s11 s12 s13 s14 : Sl} {cs : List D} {r : En} (call : Str → En → Res D) (g : Str) (A : M D) : callP call g 2 15 [A] (s0 :: s1 :: s2 :: s3 :: s4 :: s5 :: s6 :: s7 :: s8 :: s9 :: s10 :: s11 :: s12 :: s13 :: s14 :: .own cs :: r) = (A (s0 :: s1 :: s2 :: s3 :: s4 :: s5 :: s6 :: s7 :: s8 :: s9 :: s10 :: s11 :: s12 :: s13 :: s14 :: .own cs :: r)).andThen fun a e1 => match lent 15 e1 with
  | some cs => (call g [.par cs, .val a]).lentTo 15 e1
  | none => .bad := x_callP2 call g 15 A _ rfl
theorem x_cp16 {s0 s1 s2 s3 s4 s5 s6 s7 s8 s9 s10 s11 s12 s13 s14 s15 : Sl} {cs : List D} {r : En} (call : Str → En → Res D) (g : Str) (A : M D) : callP call g 2 16 [A] (s0 :: s1 :: s2 :: s3 :: s4 :: s5 :: s6 :: s7 :: s8 :: s9 :: s10 :: s11 :: s12 :: s13 :: s14 :: s15 :: .own cs :: r) = (A (s0 :: s1 :: s2 :: s3 :: s4 :: s5 :: s6 :: s7 :: s8 :: s9 :: s10 :: s11 :: s12 :: s13 :: s14 :: s15 :: .own cs :: r)).andThen fun a e1 => match lent 16 e1 with
  | some cs => (call g [.par cs, .val a]).lentTo 16 e1
  | none => .bad := x_callP2 call g 16 A _ rfl
theorem x_cp17 {s0 s1 s2 s3 s4 s5 s6 s7 s8 s9 s10 s11 s12 s13 s14 s15 s16 : Sl} {cs : List D} {r : En} (call : Str → En → Res D) (g : Str) (A : M D) : callP call g 2 17 [A] (s0 :: s1 :: s2 :: s3 :: s4 :: s5 :: s6 :: s7 :: s8 :: s9 :: s10 :: s11 :: s12 :: s13 :: s14 :: s15 :: s16 :: .own cs :: r) = (A (s0 :: s1 :: s2 :: s3 :: s4 :: s5 :: s6 :: s7 :: s8 :: s9 :: s10 :: s11 :: s12 :: s13 :: s14 :: s15 :: s16 :: .own cs :: r)).andThen fun a e1 => match lent 17 e1 with
  | some cs => (call g [.par cs, .val a]).lentTo 17 e1
  | none => .bad := x_callP2 call g 17 A _ rfl
theorem x_cp18 {s0 s1 s2 s3 s4 s5 s6 s7 s8 s9 s10 s11 s12 s13 s14 s15 s16 s17 : Sl} {cs : List D} {r : En} (call : Str → En → Res D) (g : Str) (A : M D) : callP call g 2 18 [A] (s0 :: s1 :: s2 :: s3 :: s4 :: s5 :: s6 :: s7 :: s8 :: s9 :: s10 :: s11 :: s12 :: s13 :: s14 :: s15 :: s16 :: s17 :: .own cs :: r) = (A (s0 :: s1 :: s2 :: s3 :: s4 :: s5 :: s6 :: s7 :: s8 :: s9 :: s10 :: s11 :: s12 :: s13 :: s14 :: s15 :: s16 :: s17 :: .own cs :: r)).andThen fun a e1 => match lent 18 e1 with
  | some cs => (call g [.par cs, .val a]).lentTo 18 e1
  | none => .bad := x_callP2 call g 18 A _ rfl
theorem x_cp19 {s0 s1 s2 s3 s4 s5 s6 s7 s8 s9 s10 s11 s12 s13 s14 s15 s16 s17 s18 : Sl} {cs : List D} {r : En} (call : Str → En → Res D) (g : Str) (A : M D) : callP call g 2 19 [A] (s0 :: s1 :: s2 :: s3 :: s4 :: s5 :: s6 :: s7 :: s8 :: s9 :: s10 :: s11 :: s12 :: s13 :: s14 :: s15 :: s16 :: s17 :: s18 :: .own cs :: r) = (A (s0 :: s1 :: s2 :: s3 :: s4 :: s5 :: s6 :: s7 :: s8 :: s9 :: s10 :: s11 :: s12 :: s13 :: s14 :: s15 :: s16 :: s17 :: s18 :: .own cs :: r)).andThen fun a e1 => match lent 19 e1 with
  | some cs => (call g [.par cs, .val a]).lentTo 19 e1
  | none => .bad := x_callP2 call g 19 A _ rfl
theorem x_cp20 {s0 s1 s2 s3 s4 s5 s6 s7 s8 s9 s10 s11 s12 s13 s14 s15 s16 s17 s18 s19 : Sl} {cs : List D} {r : En} (call : Str → En → Res D) (g : Str) (A : M D) : callP call g 2 20 [A] (s0 :: s1 :: s2 :: s3 :: s4 :: s5 :: s6 :: s7 :: s8 :: s9 :: s10 :: s11 :: s12 :: s13 :: s14 :: s15 :: s16 :: s17 :: s18 :: s19 :: .own cs :: r) = (A (s0 :: s1 :: s2 :: s3 :: s4 :: s5 :: s6 :: s7 :: s8 :: s9 :: s10 :: s11 :: s12 :: s13 :: s14 :: s15 :: s16 :: s17 :: s18 :: s19 :: .own cs :: r)).andThen fun a e1 => match lent 20 e1 with
  | some cs => (call g [.par cs, .val a]).lentTo 20 e1
  | none => .bad := x_callP2 call g 20 A _ rfl
theorem x_cp21 {s0 s1 s2 s3 s4 s5 s6 s7 s8 s9 s10 s11 s12 s13 s14 s15 s16 s17 s18 s19 s20 : Sl} {cs : List D} {r : En} (call : Str → En → Res D) (g : Str) (A : M D) : callP call g 2 21 [A] (s0 :: s1 :: s2 :: s3 :: s4 :: s5 :: s6 :: s7 :: s8 :: s9 :: s10 :: s11 :: s12 :: s13 :: s14 :: s15 :: s16 :: s17 :: s18 :: s19 :: s20 :: .own cs :: r) = (A (s0 :: s1 :: s2 :: s3 :: s4 :: s5 :: s6 :: s7 :: s8 :: s9 :: s10 :: s11 :: s12 :: s13 :: s14 :: s15 :: s16 :: s17 :: s18 :: s19 :: s20 :: .own cs :: r)).andThen fun a e1 => match lent 21 e1 with
  | some cs => (call g [.par cs, .val a]).lentTo 21 e1
  | none => .bad := x_callP2 call g 21 A _ rfl
theorem x_cp22 {s0 s1 s2 s3 s4 s5 s6 s7 s8 s9 s10 s11 s12 s13 s14 s15 s16 s17 s18 s19 s20 s21 : Sl} {cs : List D} {r : En} (call : Str → En → Res D) (g : Str) (A : M D) : callP call g 2 22 [A] (s0 :: s1 :: s2 :: s3 :: s4 :: s5 :: s6 :: s7 :: s8 :: s9 :: s10 :: s11 :: s12 :: s13 :: s14 :: s15 :: s16 :: s17 :: s18 :: s19 :: s20 :: s21 :: .own cs :: r) = (A (s0 :: s1 :: s2 :: s3 :: s4 :: s5 :: s6 :: s7 :: s8 :: s9 :: s10 :: s11 :: s12 :: s13 :: s14 :: s15 :: s16 :: s17 :: s18 :: s19 :: s20 :: s21 :: .own cs :: r)).andThen fun a e1 => match lent 22 e1 with
  | some cs => (call g [.par cs, .val a]).lentTo 22 e1
  | none => .bad := x_callP2 call g 22 A _ rfl
theorem x_cp23 {s0 s1 s2 s3 s4 s5 s6 s7 s8 s9 s10 s11 s12 s13 s14 s15 s16 s17 s18 s19 s20 s21 s22 : Sl} {cs : List D} {r : En} (call : Str → En → Res D) (g : Str) (A : M D) : callP call g 2 23 [A] (s0 :: s1 :: s2 :: s3 :: s4 :: s5 :: s6 :: s7 :: s8 :: s9 :: s10 :: s11 :: s12 :: s13 :: s14 :: s15 :: s16 :: s17 :: s18 :: s19 :: s20 :: s21 :: s22 :: .own cs :: r) = (A (s0 :: s1 :: s2 :: s3 :: s4 :: s5 :: s6 :: s7 :: s8 :: s9 :: s10 :: s11 :: s12 :: s13 :: s14 :: s15 :: s16 :: s17 :: s18 :: s19 :: s20 :: s21 :: s22 :: .own cs :: r)).andThen fun a e1 => match lent 23 e1 with
  | some cs => (call g [.par cs, .val a]).lentTo 23 e1
  | none => .bad := x_callP2 call g 23 A _ rfl
theorem x_cp24 {s0 s1 s2 s3 s4 s5 s6 s7 s8 s9 s10 s11 s12 s13 s14 s15 s16 s17 s18 s19 s20 s21 s22 s23 : Sl} {cs : List D} {r : En} (call : Str → En → Res D) (g : Str) (A : M D) : callP call g 2 24 [A] (s0 :: s1 :: s2 :: s3 :: s4 :: s5 :: s6 :: s7 :: s8 :: s9 :: s10 :: s11 :: s12 :: s13 :: s14 :: s15 :: s16 :: s17 :: s18 :: s19 :: s20 :: s21 :: s22 :: s23 :: .own cs :: r) = (A (s0 :: s1 :: s2 :: s3 :: s4 :: s5 :: s6 :: s7 :: s8 :: s9 :: s10 :: s11 :: s12 :: s13 :: s14 :: s15 :: s16 :: s17 :: s18 :: s19 :: s20 :: s21 :: s22 :: s23 :: .own cs :: r)).andThen fun a e1 => match lent 24 e1 with
  | some cs => (call g [.par cs, .val a]).lentTo 24 e1
  | none => .bad := x_callP2 call g 24 A _ rfl
theorem x_cp25 {s0 s1 s2 s3 s4 s5 s6 s7 s8 s9 s10 s11 s12 s13 s14 s15 s16 s17 s18 s19 s20 s21 s22 s23 s24 : Sl} {cs : List D} {r : En} (call : Str → En → Res D) (g : Str) (A : M D) : callP call g 2 25 [A] (s0 :: s1 :: s2 :: s3 :: s4 :: s5 :: s6 :: s7 :: s8 :: s9 :: s10 :: s11 :: s12 :: s13 :: s14 :: s15 :: s16 :: s17 :: s18 :: s19 :: s20 :: s21 :: s22 :: s23 :: s24 :: .own cs :: r) = (A (s0 :: s1 :: s2 :: s3 :: s4 :: s5 :: s6 :: s7 :: s8 :: s9 :: s10 :: s11 :: s12 :: s13 :: s14 :: s15 :: s16 :: s17 :: s18 :: s19 :: s20 :: s21 :: s22 :: s23 :: s24 :: .own cs :: r)).andThen fun a e1 => match lent 25 e1 with
  | some cs => (call g [.par cs, .val a]).lentTo 25 e1
  | none => .bad := x_callP2 call g 25 A _ rfl
theorem x_cq14 {s0 s1 s2 s3 s4 s5 s6 s7 s8 s9 s10 s11 s12 s13 : Sl} {cs : List D} {r : En} (call : Str → En → Res D) (g : Str) (A : M D) : callP call g 2 14 [A] (s0 :: s1 :: s2 :: s3 :: s4 :: s5 :: s6 :: s7 :: s8 :: s9 :: s10 :: s11 :: s12 :: s13 :: .par cs :: r) = (A (s0 :: s1 :: s2 :: s3 :: s4 :: s5 :: s6 :: s7 :: s8 :: s9 :: s10 :: s11 :: s12 :: s13 :: .par cs :: r)).andThen fun a e1 => match lent 14 e1 with
  | some cs => (call g [.par cs, .val a]).lentTo 14 e1
  | none => .bad := x_callP2 call g 14 A _ rfl
theorem x_cq15 {s0 s1 s2 s3 s4 s5 s6 s7 s8 s9 s10 s11 s12 s13 s14 : Sl} {cs : List D} {r : En} (call : Str → En → Res D) (g : Str) (A : M D) : callP call g 2 15 [A] (s0 :: s1 :: s2 :: s3 :: s4 :: s5 :: s6 :: s7 :: s8 :: s9 :: s10 :: s11 :: s12 :: s13 :: s14 :: .par cs :: r) = (A (s0 :: s1 :: s2 :: s3 :: s4 :: s5 :: s6 :: s7 :: s8 :: s9 :: s10 :: s11 :: s12 :: s13 :: s14 :: .par cs :: r)).andThen fun a e1 => match lent 15 e1 with
  | some cs => (call g [.par cs, .val a]).lentTo 15 e1
  | none => .bad := x_callP2 call g 15 A _ rfl
theorem x_cq16 {s0 s1 s2 s3 s4 s5 s6 s7 s8 s9 s10 s11 s12 s13 s14 s15 : Sl} {cs : List D} {r : En} (call : Str → En → Res D) (g : Str) (A : M D) : callP call g 2 16 [A] (s0 :: s1 :: s2 :: s3 :: s4 :: s5 :: s6 :: s7 :: s8 :: s9 :: s10 :: s11 :: s12 :: s13 :: s14 :: s15 :: .par cs :: r) = (A (s0 :: s1 :: s2 :: s3 :: s4 :: s5 :: s6 :: s7 :: s8 :: s9 :: s10 :: s11 :: s12 :: s13 :: s14 :: s15 :: .par cs :: r)).andThen fun a e1 => match lent 16 e1 with
  | some cs => (call g [.par cs, .val a]).lentTo 16 e1
  | none => .bad := x_callP2 call g 16 A _ rfl
theorem x_cq17 {s0 s1 s2 s3 s4 s5 s6 s7 s8 s9 s10 s11 s12 s13 s14 s15 s16 : Sl} {cs : List D} {r : En} (call : Str → En → Res D) (g : Str) (A : M D) : callP call g 2 17 [A] (s0 :: s1 :: s2 :: s3 :: s4 :: s5 :: s6 :: s7 :: s8 :: s9 :: s10 :: s11 :: s12 :: s13 :: s14 :: s15 :: s16 :: .par cs :: r) = (A (s0 :: s1 :: s2 :: s3 :: s4 :: s5 :: s6 :: s7 :: s8 :: s9 :: s10 :: s11 :: s12 :: s13 :: s14 :: s15 :: s16 :: .par cs :: r)).andThen fun a e1 => match lent 17 e1 with
  | some cs => (call g [.par cs, .val a]).lentTo 17 e1
  | none => .bad := x_callP2 call g 17 A _ rfl
theorem x_cq18 {s0 s1 s2 s3 s4 s5 s6 s7 s8 s9 s10 s11 s12 s13 s14 s15 s16 s17 : Sl} {cs : List D} {r : En} (call : Str → En → Res D) (g : Str) (A : M D) : callP call g 2 18 [A] (s0 :: s1 :: s2 :: s3 :: s4 :: s5 :: s6 :: s7 :: s8 :: s9 :: s10 :: s11 :: s12 :: s13 :: s14 :: s15 :: s16 :: s17 :: .par cs :: r) = (A (s0 :: s1 :: s2 :: s3 :: s4 :: s5 :: s6 :: s7 :: s8 :: s9 :: s10 :: s11 :: s12 :: s13 :: s14 :: s15 :: s16 :: s17 :: .par cs :: r)).andThen fun a e1 => match lent 18 e1 with
  | some cs => (call g [.par cs, .val a]).lentTo 18 e1
  | none => .bad := x_callP2 call g 18 A _ rfl
theorem x_cq19 {s0 s1 s2 s3 s4 s5 s6 s7 s8 s9 s10 s11 s12 s13 s14 s15 s16 s17 s18 : Sl} {cs : List D} {r : En} (call : Str → En → Res D) (g : Str) (A : M D) : callP call g 2 19 [A] (s0 :: s1 :: s2 :: s3 :: s4 :: s5 :: s6 :: s7 :: s8 :: s9 :: s10 :: s11 :: s12 :: s13 :: s14 :: s15 :: s16 :: s17 :: s18 :: .par cs :: r) = (A (s0 :: s1 :: s2 :: s3 :: s4 :: s5 :: s6 :: s7 :: s8 :: s9 :: s10 :: s11 :: s12 :: s13 :: s14 :: s15 :: s16 :: s17 :: s18 :: .par cs :: r)).andThen fun a e1 => match lent 19 e1 with
  | some cs => (call g [.par cs, .val a]).lentTo 19 e1
  | none => .bad := x_callP2 call g 19 A _ rfl
theorem x_cq20 {s0 s1 s2 s3 s4 s5 s6 s7 s8 s9 s10 s11 s12 s13 s14 s15 s16 s17 s18 s19 : Sl} {cs : List D} {r : En} (call : Str → En → Res D) (g : Str) (A : M D) : callP call g 2 20 [A] (s0 :: s1 :: s2 :: s3 :: s4 :: s5 :: s6 :: s7 :: s8 :: s9 :: s10 :: s11 :: s12 :: s13 :: s14 :: s15 :: s16 :: s17 :: s18 :: s19 :: .par cs :: r) = (A (s0 :: s1 :: s2 :: s3 :: s4 :: s5 :: s6 :: s7 :: s8 :: s9 :: s10 :: s11 :: s12 :: s13 :: s14 :: s15 :: s16 :: s17 :: s18 :: s19 :: .par cs :: r)).andThen fun a e1 => match lent 20 e1 with
  | some cs => (call g [.par cs, .val a]).lentTo 20 e1
  | none => .bad := x_callP2 call g 20 A _ rfl
theorem x_cq21 {s0 s1 s2 s3 s4 s5 s6 s7 s8 s9 s10 s11 s12 s13 s14 s15 s16 s17 s18 s19 s20 : Sl} {cs : List D} {r : En} (call : Str → En → Res D) (g : Str) (A : M D) : callP call g 2 21 [A] (s0 :: s1 :: s2 :: s3 :: s4 :: s5 :: s6 :: s7 :: s8 :: s9 :: s10 :: s11 :: s12 :: s13 :: s14 :: s15 :: s16 :: s17 :: s18 :: s19 :: s20 :: .par cs :: r) = (A (s0 :: s1 :: s2 :: s3 :: s4 :: s5 :: s6 :: s7 :: s8 :: s9 :: s10 :: s11 :: s12 :: s13 :: s14 :: s15 :: s16 :: s17 :: s18 :: s19 :: s20 :: .par cs :: r)).andThen fun a e1 => match lent 21 e1 with
  | some cs => (call g [.par cs, .val a]).lentTo 21 e1
  | none => .bad := x_callP2 call g 21 A _ rfl
theorem x_cq22 {s0 s1 s2 s3 s4 s5 s6 s7 s8 s9 s10 s11 s12 s13 s14 s15 s16 s17 s18 s19 s20 s21 : Sl} {cs : List D} {r : En} (call : Str → En → Res D) (g : Str) (A : M D) : callP call g 2 22 [A] (s0 :: s1 :: s2 :: s3 :: s4 :: s5 :: s6 :: s7 :: s8 :: s9 :: s10 :: s11 :: s12 :: s13 :: s14 :: s15 :: s16 :: s17 :: s18 :: s19 :: s20 :: s21 :: .par cs :: r) = (A (s0 :: s1 :: s2 :: s3 :: s4 :: s5 :: s6 :: s7 :: s8 :: s9 :: s10 :: s11 :: s12 :: s13 :: s14 :: s15 :: s16 :: s17 :: s18 :: s19 :: s20 :: s21 :: .par cs :: r)).andThen fun a e1 => match lent 22 e1 with
  | some cs => (call g [.par cs, .val a]).lentTo 22 e1
  | none => .bad := x_callP2 call g 22 A _ rfl
theorem x_cq23 {s0 s1 s2 s3 s4 s5 s6 s7 s8 s9 s10 s11 s12 s13 s14 s15 s16 s17 s18 s19 s20 s21 s22 : Sl} {cs : List D} {r : En} (call : Str → En → Res D) (g : Str) (A : M D) : callP call g 2 23 [A] (s0 :: s1 :: s2 :: s3 :: s4 :: s5 :: s6 :: s7 :: s8 :: s9 :: s10 :: s11 :: s12 :: s13 :: s14 :: s15 :: s16 :: s17 :: s18 :: s19 :: s20 :: s21 :: s22 :: .par cs :: r) = (A (s0 :: s1 :: s2 :: s3 :: s4 :: s5 :: s6 :: s7 :: s8 :: s9 :: s10 :: s11 :: s12 :: s13 :: s14 :: s15 :: s16 :: s17 :: s18 :: s19 :: s20 :: s21 :: s22 :: .par cs :: r)).andThen fun a e1 => match lent 23 e1 with
  | some cs => (call g [.par cs, .val a]).lentTo 23 e1
  | none => .bad := x_callP2 call g 23 A _ rfl
theorem x_cq24 {s0 s1 s2 s3 s4 s5 s6 s7 s8 s9 s10 s11 s12 s13 s14 s15 s16 s17 s18 s19 s20 s21 s22 s23 : Sl} {cs : List D} {r : En} (call : Str → En → Res D) (g : Str) (A : M D) : callP call g 2 24 [A] (s0 :: s1 :: s2 :: s3 :: s4 :: s5 :: s6 :: s7 :: s8 :: s9 :: s10 :: s11 :: s12 :: s13 :: s14 :: s15 :: s16 :: s17 :: s18 :: s19 :: s20 :: s21 :: s22 :: s23 :: .par cs :: r) = (A (s0 :: s1 :: s2 :: s3 :: s4 :: s5 :: s6 :: s7 :: s8 :: s9 :: s10 :: s11 :: s12 :: s13 :: s14 :: s15 :: s16 :: s17 :: s18 :: s19 :: s20 :: s21 :: s22 :: s23 :: .par cs :: r)).andThen fun a e1 => match lent 24 e1 with
  | some cs => (call g [.par cs, .val a]).lentTo 24 e1
  | none => .bad := x_callP2 call g 24 A _ rfl
theorem x_cq25 {s0 s1 s2 s3 s4 s5 s6 s7 s8 s9 s10 s11 s12 s13 s14 s15 s16 s17 s18 s19 s20 s21 s22 s23 s24 : Sl} {cs : List D} {r : En} (call : Str → En → Res D) (g : Str) (A : M D) : callP call g 2 25 [A] (s0 :: s1 :: s2 :: s3 :: s4 :: s5 :: s6 :: s7 :: s8 :: s9 :: s10 :: s11 :: s12 :: s13 :: s14 :: s15 :: s16 :: s17 :: s18 :: s19 :: s20 :: s21 :: s22 :: s23 :: s24 :: .par cs :: r) = (A (s0 :: s1 :: s2 :: s3 :: s4 :: s5 :: s6 :: s7 :: s8 :: s9 :: s10 :: s11 :: s12 :: s13 :: s14 :: s15 :: s16 :: s17 :: s18 :: s19 :: s20 :: s21 :: s22 :: s23 :: s24 :: .par cs :: r)).andThen fun a e1 => match lent 25 e1 with
  | some cs => (call g [.par cs, .val a]).lentTo 25 e1
  | none => .bad := x_callP2 call g 25 A _ rfl
theorem x_ap14 {s0 s1 s2 s3 s4 s5 s6 s7 s8 s9 s10 s11 s12 s13 : Sl} {ds : List D} {d : D} {r : En} (h : ds.length < lim) : appTo 14 d (s0 :: s1 :: s2 :: s3 :: s4 :: s5 :: s6 :: s7 :: s8 :: s9 :: s10 :: s11 :: s12 :: s13 :: .own ds :: r) = .ok .none (s0 :: s1 :: s2 :: s3 :: s4 :: s5 :: s6 :: s7 :: s8 :: s9 :: s10 :: s11 :: s12 :: s13 :: .own (ds ++ [d]) :: r) := by
  show (if ds.length < lim then _ else _) = _
  rw [if_pos h]
  rfl
theorem x_ap15 {s0 s1 s2 s3 s4 s5 s6 s7 s8 s9 s10 s11 s12 s13 s14 : Sl} {ds : List D} {d : D} {r : En} (h : ds.length < lim) : appTo 15 d (s0 :: s1 :: s2 :: s3 :: s4 :: s5 :: s6 :: s7 :: s8 :: s9 :: s10 :: s11 :: s12 :: s13 :: s14 :: .own ds :: r) = .ok .none (s0 :: s1 :: s2 :: s3 :: s4 :: s5 :: s6 :: s7 :: s8 :: s9 :: s10 :: s11 :: s12 :: s13 :: s14 :: .own (ds ++ [d]) :: r) := by
  show (if ds.length < lim then _ else _) = _
  rw [if_pos h]
  rfl
theorem x_ap16 {s0 s1 s2 s3 s4 s5 s6 s7 s8 s9 s10 s11 s12 s13 s14 s15 : Sl} {ds : List D} {d : D} {r : En} (h : ds.length < lim) : appTo 16 d (s0 :: s1 :: s2 :: s3 :: s4 :: s5 :: s6 :: s7 :: s8 :: s9 :: s10 :: s11 :: s12 :: s13 :: s14 :: s15 :: .own ds :: r) = .ok .none (s0 :: s1 :: s2 :: s3 :: s4 :: s5 :: s6 :: s7 :: s8 :: s9 :: s10 :: s11 :: s12 :: s13 :: s14 :: s15 :: .own (ds ++ [d]) :: r) := by
  show (if ds.length < lim then _ else _) = _
  rw [if_pos h]
  rfl
theorem x_ap17 {s0 s1 s2 s3 s4 s5 s6 s7 s8 s9 s10 s11 s12 s13 s14 s15 s16 : Sl} {ds : List D} {d : D} {r : En} (h : ds.length < lim) : appTo 17 d (s0 :: s1 :: s2 :: s3 :: s4 :: s5 :: s6 :: s7 :: s8 :: s9 :: s10 :: s11 :: s12 :: s13 :: s14 :: s15 :: s16 :: .own ds :: r) = .ok .none (s0 :: s1 :: s2 :: s3 :: s4 :: s5 :: s6 :: s7 :: s8 :: s9 :: s10 :: s11 :: s12 :: s13 :: s14 :: s15 :: s16 :: .own (ds ++ [d]) :: r) := by
  show (if ds.length < lim then _ else _) = _
  rw [if_pos h]
  rfl
theorem x_ap18 {s0 s1 s2 s3 s4 s5 s6 s7 s8 s9 s10 s11 s12 s13 s14 s15 s16 s17 : Sl} {ds : List D} {d : D} {r : En} (h : ds.length < lim) : appTo 18 d (s0 :: s1 :: s2 :: s3 :: s4 :: s5 :: s6 :: s7 :: s8 :: s9 :: s10 :: s11 :: s12 :: s13 :: s14 :: s15 :: s16 :: s17 :: .own ds :: r) = .ok .none (s0 :: s1 :: s2 :: s3 :: s4 :: s5 :: s6 :: s7 :: s8 :: s9 :: s10 :: s11 :: s12 :: s13 :: s14 :: s15 :: s16 :: s17 :: .own (ds ++ [d]) :: r) := by
  show (if ds.length < lim then _ else _) = _
  rw [if_pos h]
  rfl
theorem x_ap19 {s0 s1 s2 s3 s4 s5 s6 s7 s8 s9 s10 s11 s12 s13 s14 s15 s16 s17 s18 : Sl} {ds : List D} {d : D} {r : En} (h : ds.length < lim) : appTo 19 d (s0 :: s1 :: s2 :: s3 :: s4 :: s5 :: s6 :: s7 :: s8 :: s9 :: s10 :: s11 :: s12 :: s13 :: s14 :: s15 :: s16 :: s17 :: s18 :: .own ds :: r) = .ok .none (s0 :: s1 :: s2 :: s3 :: s4 :: s5 :: s6 :: s7 :: s8 :: s9 :: s10 :: s11 :: s12 :: s13 :: s14 :: s15 :: s16 :: s17 :: s18 :: .own (ds ++ [d]) :: r) := by
  show (if ds.length < lim then _ else _) = _
  rw [if_pos h]
  rfl
theorem x_ap20 {s0 s1 s2 s3 s4 s5 s6 s7 s8 s9 s10 s11 s12 s13 s14 s15 s16 s17 s18 s19 : Sl} {ds : List D} {d : D} {r : En} (h : ds.length < lim) : appTo 20 d (s0 :: s1 :: s2 :: s3 :: s4 :: s5 :: s6 :: s7 :: s8 :: s9 :: s10 :: s11 :: s12 :: s13 :: s14 :: s15 :: s16 :: s17 :: s18 :: s19 :: .own ds :: r) = .ok .none (s0 :: s1 :: s2 :: s3 :: s4 :: s5 :: s6 :: s7 :: s8 :: s9 :: s10 :: s11 :: s12 :: s13 :: s14 :: s15 :: s16 :: s17 :: s18 :: s19 :: .own (ds ++ [d]) :: r) := by
  show (if ds.length < lim then _ else _) = _
  rw [if_pos h]
  rfl
theorem x_ap21 {s0 s1 s2 s3 s4 s5 s6 s7 s8 s9 s10 s11 s12 s13 s14 s15 s16 s17 s18 s19 s20 : Sl} {ds : List D} {d : D} {r : En} (h : ds.length < lim) : appTo 21 d (s0 :: s1 :: s2 :: s3 :: s4 :: s5 :: s6 :: s7 :: s8 :: s9 :: s10 :: s11 :: s12 :: s13 :: s14 :: s15 :: s16 :: s17 :: s18 :: s19 :: s20 :: .own ds :: r) = .ok .none (s0 :: s1 :: s2 :: s3 :: s4 :: s5 :: s6 :: s7 :: s8 :: s9 :: s10 :: s11 :: s12 :: s13 :: s14 :: s15 :: s16 :: s17 :: s18 :: s19 :: s20 :: .own (ds ++ [d]) :: r) := by
  show (if ds.length < lim then _ else _) = _
  rw [if_pos h]
  rfl
theorem x_ap22 {s0 s1 s2 s3 s4 s5 s6 s7 s8 s9 s10 s11 s12 s13 s14 s15 s16 s17 s18 s19 s20 s21 : Sl} {ds : List D} {d : D} {r : En} (h : ds.length < lim) : appTo 22 d (s0 :: s1 :: s2 :: s3 :: s4 :: s5 :: s6 :: s7 :: s8 :: s9 :: s10 :: s11 :: s12 :: s13 :: s14 :: s15 :: s16 :: s17 :: s18 :: s19 :: s20 :: s21 :: .own ds :: r) = .ok .none (s0 :: s1 :: s2 :: s3 :: s4 :: s5 :: s6 :: s7 :: s8 :: s9 :: s10 :: s11 :: s12 :: s13 :: s14 :: s15 :: s16 :: s17 :: s18 :: s19 :: s20 :: s21 :: .own (ds ++ [d]) :: r) := by
  show (if ds.length < lim then _ else _) = _
  rw [if_pos h]
  rfl
theorem x_ap23 {s0 s1 s2 s3 s4 s5 s6 s7 s8 s9 s10 s11 s12 s13 s14 s15 s16 s17 s18 s19 s20 s21 s22 : Sl} {ds : List D} {d : D} {r : En} (h : ds.length < lim) : appTo 23 d (s0 :: s1 :: s2 :: s3 :: s4 :: s5 :: s6 :: s7 :: s8 :: s9 :: s10 :: s11 :: s12 :: s13 :: s14 :: s15 :: s16 :: s17 :: s18 :: s19 :: s20 :: s21 :: s22 :: .own ds :: r) = .ok .none (s0 :: s1 :: s2 :: s3 :: s4 :: s5 :: s6 :: s7 :: s8 :: s9 :: s10 :: s11 :: s12 :: s13 :: s14 :: s15 :: s16 :: s17 :: s18 :: s19 :: s20 :: s21 :: s22 :: .own (ds ++ [d]) :: r) := by
  show (if ds.length < lim then _ else _) = _
  rw [if_pos h]
  rfl
theorem x_ap24 {s0 s1 s2 s3 s4 s5 s6 s7 s8 s9 s10 s11 s12 s13 s14 s15 s16 s17 s18 s19 s20 s21 s22 s23 : Sl} {ds : List D} {d : D} {r : En} (h : ds.length < lim) : appTo 24 d (s0 :: s1 :: s2 :: s3 :: s4 :: s5 :: s6 :: s7 :: s8 :: s9 :: s10 :: s11 :: s12 :: s13 :: s14 :: s15 :: s16 :: s17 :: s18 :: s19 :: s20 :: s21 :: s22 :: s23 :: .own ds :: r) = .ok .none (s0 :: s1 :: s2 :: s3 :: s4 :: s5 :: s6 :: s7 :: s8 :: s9 :: s10 :: s11 :: s12 :: s13 :: s14 :: s15 :: s16 :: s17 :: s18 :: s19 :: s20 :: s21 :: s22 :: s23 :: .own (ds ++ [d]) :: r) := by
  show (if ds.length < lim then _ else _) = _
  rw [if_pos h]
  rfl
theorem x_ap25 {s0 s1 s2 s3 s4 s5 s6 s7 s8 s9 s10 s11 s12 s13 s14 s15 s16 s17 s18 s19 s20 s21 s22 s23 s24 : Sl} {ds : List D} {d : D} {r : En} (h : ds.length < lim) : appTo 25 d (s0 :: s1 :: s2 :: s3 :: s4 :: s5 :: s6 :: s7 :: s8 :: s9 :: s10 :: s11 :: s12 :: s13 :: s14 :: s15 :: s16 :: s17 :: s18 :: s19 :: s20 :: s21 :: s22 :: s23 :: s24 :: .own ds :: r) = .ok .none (s0 :: s1 :: s2 :: s3 :: s4 :: s5 :: s6 :: s7 :: s8 :: s9 :: s10 :: s11 :: s12 :: s13 :: s14 :: s15 :: s16 :: s17 :: s18 :: s19 :: s20 :: s21 :: s22 :: s23 :: s24 :: .own (ds ++ [d]) :: r) := by
  show (if ds.length < lim then _ else _) = _
  rw [if_pos h]
  rfl
theorem x_po14 {s0 s1 s2 s3 s4 s5 s6 s7 s8 s9 s10 s11 s12 s13 : Sl} {ds : List D} {d : D} {r : En} : popM 14 (s0 :: s1 :: s2 :: s3 :: s4 :: s5 :: s6 :: s7 :: s8 :: s9 :: s10 :: s11 :: s12 :: s13 :: .own (ds ++ [d]) :: r) = .ok d (s0 :: s1 :: s2 :: s3 :: s4 :: s5 :: s6 :: s7 :: s8 :: s9 :: s10 :: s11 :: s12 :: s13 :: .own ds :: r) := by
  show (match (ds ++ [d]).getLast? with
    | some d' => Res.ok d' (s0 :: s1 :: s2 :: s3 :: s4 :: s5 :: s6 :: s7 :: s8 :: s9 :: s10 :: s11 :: s12 :: s13 :: .own (ds ++ [d]).dropLast :: r)
    | none => .bad) = _
  simp
theorem x_po15 {s0 s1 s2 s3 s4 s5 s6 s7 s8 s9 s10 s11 s12 s13 s14 : Sl} {ds : List D} {d : D} {r : En} : popM 15 (s0 :: s1 :: s2 :: s3 :: s4 :: s5 :: s6 :: s7 :: s8 :: s9 :: s10 :: s11 :: s12 :: s13 :: s14 :: .own (ds ++ [d]) :: r) = .ok d (s0 :: s1 :: s2 :: s3 :: s4 :: s5 :: s6 :: s7 :: s8 :: s9 :: s10 :: s11 :: s12 :: s13 :: s14 :: .own ds :: r) := by
  show (match (ds ++ [d]).getLast? with
    | some d' => Res.ok d' (s0 :: s1 :: s2 :: s3 :: s4 :: s5 :: s6 :: s7 :: s8 :: s9 :: s10 :: s11 :: s12 :: s13 :: s14 :: .own (ds ++ [d]).dropLast :: r)
    | none => .bad) = _
  simp
theorem x_po16 {s0 s1 s2 s3 s4 s5 s6 s7 s8 s9 s10 s11 s12 s13 s14 s15 : Sl} {ds : List D} {d : D} {r : En} : popM 16 (s0 :: s1 :: s2 :: s3 :: s4 :: s5 :: s6 :: s7 :: s8 :: s9 :: s10 :: s11 :: s12 :: s13 :: s14 :: s15 :: .own (ds ++ [d]) :: r) = .ok d (s0 :: s1 :: s2 :: s3 :: s4 :: s5 :: s6 :: s7 :: s8 :: s9 :: s10 :: s11 :: s12 :: s13 :: s14 :: s15 :: .own ds :: r) := by
  show (match (ds ++ [d]).getLast? with
    | some d' => Res.ok d' (s0 :: s1 :: s2 :: s3 :: s4 :: s5 :: s6 :: s7 :: s8 :: s9 :: s10 :: s11 :: s12 :: s13 :: s14 :: s15 :: .own (ds ++ [d]).dropLast :: r)
    | none => .bad) = _
  simp
theorem x_po17 {s0 s1 s2 s3 s4 s5 s6 s7 s8 s9 s10 s11 s12 s13 s14 s15 s16 : Sl} {ds : List D} {d : D} {r : En} : popM 17 (s0 :: s1 :: s2 :: s3 :: s4 :: s5 :: s6 :: s7 :: s8 :: s9 :: s10 :: s11 :: s12 :: s13 :: s14 :: s15 :: s16 :: .own (ds ++ [d]) :: r) = .ok d (s0 :: s1 :: s2 :: s3 :: s4 :: s5 :: s6 :: s7 :: s8 :: s9 :: s10 :: s11 :: s12 :: s13 :: s14 :: s15 :: s16 :: .own ds :: r) := by
  show (match (ds ++ [d]).getLast? with
    | some d' => Res.ok d' (s0 :: s1 :: s2 :: s3 :: s4 :: s5 :: s6 :: s7 :: s8 :: s9 :: s10 :: s11 :: s12 :: s13 :: s14 :: s15 :: s16 :: .own (ds ++ [d]).dropLast :: r)
    | none => .bad) = _
  simp
theorem x_po18 {s0 s1 s2 s3 s4 s5 s6 s7 s8 s9 s10 s11 s12 s13 s14 s15 s16 s17 : Sl} {ds : List D} {d : D} {r : En} : popM 18 (s0 :: s1 :: s2 :: s3 :: s4 :: s5 :: s6 :: s7 :: s8 :: s9 :: s10 :: s11 :: s12 :: s13 :: s14 :: s15 :: s16 :: s17 :: .own (ds ++ [d]) :: r) = .ok d (s0 :: s1 :: s2 :: s3 :: s4 :: s5 :: s6 :: s7 :: s8 :: s9 :: s10 :: s11 :: s12 :: s13 :: s14 :: s15 :: s16 :: s17 :: .own ds :: r) := by
  show (match (ds ++ [d]).getLast? with
    | some d' => Res.ok d' (s0 :: s1 :: s2 :: s3 :: s4 :: s5 :: s6 :: s7 :: s8 :: s9 :: s10 :: s11 :: s12 :: s13 :: s14 :: s15 :: s16 :: s17 :: .own (ds ++ [d]).dropLast :: r)
    | none => .bad) = _
  simp
theorem x_po19 {s0 s1 s2 s3 s4 s5 s6 s7 s8 s9 s10 s11 s12 s13 s14 s15 s16 s17 s18 : Sl} {ds : List D} {d : D} {r : En} : popM 19 (s0 :: s1 :: s2 :: s3 :: s4 :: s5 :: s6 :: s7 :: s8 :: s9 :: s10 :: s11 :: s12 :: s13 :: s14 :: s15 :: s16 :: s17 :: s18 :: .own (ds ++ [d]) :: r) = .ok d (s0 :: s1 :: s2 :: s3 :: s4 :: s5 :: s6 :: s7 :: s8 :: s9 :: s10 :: s11 :: s12 :: s13 :: s14 :: s15 :: s16 :: s17 :: s18 :: .own ds :: r) := by
  show (match (ds ++ [d]).getLast? with
    | some d' => Res.ok d' (s0 :: s1 :: s2 :: s3 :: s4 :: s5 :: s6 :: s7 :: s8 :: s9 :: s10 :: s11 :: s12 :: s13 :: s14 :: s15 :: s16 :: s17 :: s18 :: .own (ds ++ [d]).dropLast :: r)
    | none => .bad) = _
  simp
theorem x_po20 {s0 s1 s2 s3 s4 s5 s6 s7 s8 s9 s10 s11 s12 s13 s14 s15 s16 s17 s18 s19 : Sl} {ds : List D} {d : D} {r : En} : popM 20 (s0 :: s1 :: s2 :: s3 :: s4 :: s5 :: s6 :: s7 :: s8 :: s9 :: s10 :: s11 :: s12 :: s13 :: s14 :: s15 :: s16 :: s17 :: s18 :: s19 :: .own (ds ++ [d]) :: r) = .ok d (s0 :: s1 :: s2 :: s3 :: s4 :: s5 :: s6 :: s7 :: s8 :: s9 :: s10 :: s11 :: s12 :: s13 :: s14 :: s15 :: s16 :: s17 :: s18 :: s19 :: .own ds :: r) := by
  show (match (ds ++ [d]).getLast? with
    | some d' => Res.ok d' (s0 :: s1 :: s2 :: s3 :: s4 :: s5 :: s6 :: s7 :: s8 :: s9 :: s10 :: s11 :: s12 :: s13 :: s14 :: s15 :: s16 :: s17 :: s18 :: s19 :: .own (ds ++ [d]).dropLast :: r)
    | none => .bad) = _
  simp
theorem x_po21 {s0 s1 s2 s3 s4 s5 s6 s7 s8 s9 s10 s11 s12 s13 s14 s15 s16 s17 s18 s19 s20 : Sl} {ds : List D} {d : D} {r : En} : popM 21 (s0 :: s1 :: s2 :: s3 :: s4 :: s5 :: s6 :: s7 :: s8 :: s9 :: s10 :: s11 :: s12 :: s13 :: s14 :: s15 :: s16 :: s17 :: s18 :: s19 :: s20 :: .own (ds ++ [d]) :: r) = .ok d (s0 :: s1 :: s2 :: s3 :: s4 :: s5 :: s6 :: s7 :: s8 :: s9 :: s10 :: s11 :: s12 :: s13 :: s14 :: s15 :: s16 :: s17 :: s18 :: s19 :: s20 :: .own ds :: r) := by
  show (match (ds ++ [d]).getLast? with
    | some d' => Res.ok d' (s0 :: s1 :: s2 :: s3 :: s4 :: s5 :: s6 :: s7 :: s8 :: s9 :: s10 :: s11 :: s12 :: s13 :: s14 :: s15 :: s16 :: s17 :: s18 :: s19 :: s20 :: .own (ds ++ [d]).dropLast :: r)
    | none => .bad) = _
  simp
theorem x_po22 {s0 s1 s2 s3 s4 s5 s6 s7 s8 s9 s10 s11 s12 s13 s14 s15 s16 s17 s18 s19 s20 s21 : Sl} {ds : List D} {d : D} {r : En} : popM 22 (s0 :: s1 :: s2 :: s3 :: s4 :: s5 :: s6 :: s7 :: s8 :: s9 :: s10 :: s11 :: s12 :: s13 :: s14 :: s15 :: s16 :: s17 :: s18 :: s19 :: s20 :: s21 :: .own (ds ++ [d]) :: r) = .ok d (s0 :: s1 :: s2 :: s3 :: s4 :: s5 :: s6 :: s7 :: s8 :: s9 :: s10 :: s11 :: s12 :: s13 :: s14 :: s15 :: s16 :: s17 :: s18 :: s19 :: s20 :: s21 :: .own ds :: r) := by
  show (match (ds ++ [d]).getLast? with
    | some d' => Res.ok d' (s0 :: s1 :: s2 :: s3 :: s4 :: s5 :: s6 :: s7 :: s8 :: s9 :: s10 :: s11 :: s12 :: s13 :: s14 :: s15 :: s16 :: s17 :: s18 :: s19 :: s20 :: s21 :: .own (ds ++ [d]).dropLast :: r)
    | none => .bad) = _
  simp
theorem x_po23 {s0 s1 s2 s3 s4 s5 s6 s7 s8 s9 s10 s11 s12 s13 s14 s15 s16 s17 s18 s19 s20 s21 s22 : Sl} {ds : List D} {d : D} {r : En} : popM 23 (s0 :: s1 :: s2 :: s3 :: s4 :: s5 :: s6 :: s7 :: s8 :: s9 :: s10 :: s11 :: s12 :: s13 :: s14 :: s15 :: s16 :: s17 :: s18 :: s19 :: s20 :: s21 :: s22 :: .own (ds ++ [d]) :: r) = .ok d (s0 :: s1 :: s2 :: s3 :: s4 :: s5 :: s6 :: s7 :: s8 :: s9 :: s10 :: s11 :: s12 :: s13 :: s14 :: s15 :: s16 :: s17 :: s18 :: s19 :: s20 :: s21 :: s22 :: .own ds :: r) := by
  show (match (ds ++ [d]).getLast? with
    | some d' => Res.ok d' (s0 :: s1 :: s2 :: s3 :: s4 :: s5 :: s6 :: s7 :: s8 :: s9 :: s10 :: s11 :: s12 :: s13 :: s14 :: s15 :: s16 :: s17 :: s18 :: s19 :: s20 :: s21 :: s22 :: .own (ds ++ [d]).dropLast :: r)
    | none => .bad) = _
  simp
theorem x_po24 {s0 s1 s2 s3 s4 s5 s6 s7 s8 s9 s10 s11 s12 s13 s14 s15 s16 s17 s18 s19 s20 s21 s22 s23 : Sl} {ds : List D} {d : D} {r : En} : popM 24 (s0 :: s1 :: s2 :: s3 :: s4 :: s5 :: s6 :: s7 :: s8 :: s9 :: s10 :: s11 :: s12 :: s13 :: s14 :: s15 :: s16 :: s17 :: s18 :: s19 :: s20 :: s21 :: s22 :: s23 :: .own (ds ++ [d]) :: r) = .ok d (s0 :: s1 :: s2 :: s3 :: s4 :: s5 :: s6 :: s7 :: s8 :: s9 :: s10 :: s11 :: s12 :: s13 :: s14 :: s15 :: s16 :: s17 :: s18 :: s19 :: s20 :: s21 :: s22 :: s23 :: .own ds :: r) := by
  show (match (ds ++ [d]).getLast? with
    | some d' => Res.ok d' (s0 :: s1 :: s2 :: s3 :: s4 :: s5 :: s6 :: s7 :: s8 :: s9 :: s10 :: s11 :: s12 :: s13 :: s14 :: s15 :: s16 :: s17 :: s18 :: s19 :: s20 :: s21 :: s22 :: s23 :: .own (ds ++ [d]).dropLast :: r)
    | none => .bad) = _
  simp
theorem x_po25 {s0 s1 s2 s3 s4 s5 s6 s7 s8 s9 s10 s11 s12 s13 s14 s15 s16 s17 s18 s19 s20 s21 s22 s23 s24 : Sl} {ds : List D} {d : D} {r : En} : popM 25 (s0 :: s1 :: s2 :: s3 :: s4 :: s5 :: s6 :: s7 :: s8 :: s9 :: s10 :: s11 :: s12 :: s13 :: s14 :: s15 :: s16 :: s17 :: s18 :: s19 :: s20 :: s21 :: s22 :: s23 :: s24 :: .own (ds ++ [d]) :: r) = .ok d (s0 :: s1 :: s2 :: s3 :: s4 :: s5 :: s6 :: s7 :: s8 :: s9 :: s10 :: s11 :: s12 :: s13 :: s14 :: s15 :: s16 :: s17 :: s18 :: s19 :: s20 :: s21 :: s22 :: s23 :: s24 :: .own ds :: r) := by
  show (match (ds ++ [d]).getLast? with
    | some d' => Res.ok d' (s0 :: s1 :: s2 :: s3 :: s4 :: s5 :: s6 :: s7 :: s8 :: s9 :: s10 :: s11 :: s12 :: s13 :: s14 :: s15 :: s16 :: s17 :: s18 :: s19 :: s20 :: s21 :: s22 :: s23 :: s24 :: .own (ds ++ [d]).dropLast :: r)
    | none => .bad) = _
  simp
theorem x_pa14 {s0 s1 s2 s3 s4 s5 s6 s7 s8 s9 s10 s11 s12 s13 : Sl} {ds : List D} {d : D} {k : Nat} {r : En} (h : ds[k]? = some d) : popAtTo 14 (.int (k : Nat)) (s0 :: s1 :: s2 :: s3 :: s4 :: s5 :: s6 :: s7 :: s8 :: s9 :: s10 :: s11 :: s12 :: s13 :: .own ds :: r) = .ok d (s0 :: s1 :: s2 :: s3 :: s4 :: s5 :: s6 :: s7 :: s8 :: s9 :: s10 :: s11 :: s12 :: s13 :: .own (ds.eraseIdx k) :: r) := by
  obtain ⟨h1, _⟩ := List.getElem?_eq_some_iff.mp h
  show (if 0 ≤ ((k : Nat) : Int) ∧ ((k : Nat) : Int) < ds.length then (match ds[((k : Nat) : Int).toNat]? with
    | some d => Res.ok d (s0 :: s1 :: s2 :: s3 :: s4 :: s5 :: s6 :: s7 :: s8 :: s9 :: s10 :: s11 :: s12 :: s13 :: .own (ds.eraseIdx ((k : Nat) : Int).toNat) :: r)
    | none => .bad) else .bad) = _
  rw [if_pos ⟨by omega, by omega⟩, Int.toNat_natCast, h]
theorem x_pa15 {s0 s1 s2 s3 s4 s5 s6 s7 s8 s9 s10 s11 s12 s13 s14 : Sl} {ds : List D} {d : D} {k : Nat} {r : En} (h : ds[k]? = some d) : popAtTo 15 (.int (k : Nat)) (s0 :: s1 :: s2 :: s3 :: s4 :: s5 :: s6 :: s7 :: s8 :: s9 :: s10 :: s11 :: s12 :: s13 :: s14 :: .own ds :: r) = .ok d (s0 :: s1 :: s2 :: s3 :: s4 :: s5 :: s6 :: s7 :: s8 :: s9 :: s10 :: s11 :: s12 :: s13 :: s14 :: .own (ds.eraseIdx k) :: r) := by
  obtain ⟨h1, _⟩ := List.getElem?_eq_some_iff.mp h
  show (if 0 ≤ ((k : Nat) : Int) ∧ ((k : Nat) : Int) < ds.length then (match ds[((k : Nat) : Int).toNat]? with
    | some d => Res.ok d (s0 :: s1 :: s2 :: s3 :: s4 :: s5 :: s6 :: s7 :: s8 :: s9 :: s10 :: s11 :: s12 :: s13 :: s14 :: .own (ds.eraseIdx ((k : Nat) : Int).toNat) :: r)
    | none => .bad) else .bad) = _
  rw [if_pos ⟨by omega, by omega⟩, Int.toNat_natCast, h]
theorem x_pa16 {s0 s1 s2 s3 s4 s5 s6 s7 s8 s9 s10 s11 s12 s13 s14 s15 : Sl} {ds : List D} {d : D} {k : Nat} {r : En} (h : ds[k]? = some d) : popAtTo 16 (.int (k : Nat)) (s0 :: s1 :: s2 :: s3 :: s4 :: s5 :: s6 :: s7 :: s8 :: s9 :: s10 :: s11 :: s12 :: s13 :: s14 :: s15 :: .own ds :: r) = .ok d (s0 :: s1 :: s2 :: s3 :: s4 :: s5 :: s6 :: s7 :: s8 :: s9 :: s10 :: s11 :: s12 :: s13 :: s14 :: s15 :: .own (ds.eraseIdx k) :: r) := by
  obtain ⟨h1, _⟩ := List.getElem?_eq_some_iff.mp h
  show (if 0 ≤ ((k : Nat) : Int) ∧ ((k : Nat) : Int) < ds.length then (match ds[((k : Nat) : Int).toNat]? with
    | some d => Res.ok d (s0 :: s1 :: s2 :: s3 :: s4 :: s5 :: s6 :: s7 :: s8 :: s9 :: s10 :: s11 :: s12 :: s13 :: s14 :: s15 :: .own (ds.eraseIdx ((k : Nat) : Int).toNat) :: r)
    | none => .bad) else .bad) = _
  rw [if_pos ⟨by omega, by omega⟩, Int.toNat_natCast, h]
theorem x_pa17 {s0 s1 s2 s3 s4 s5 s6 s7 s8 s9 s10 s11 s12 s13 s14 s15 s16 : Sl} {ds : List D} {d : D} {k : Nat} {r : En} (h : ds[k]? = some d) : popAtTo 17 (.int (k : Nat)) (s0 :: s1 :: s2 :: s3 :: s4 :: s5 :: s6 :: s7 :: s8 :: s9 :: s10 :: s11 :: s12 :: s13 :: s14 :: s15 :: s16 :: .own ds :: r) = .ok d (s0 :: s1 :: s2 :: s3 :: s4 :: s5 :: s6 :: s7 :: s8 :: s9 :: s10 :: s11 :: s12 :: s13 :: s14 :: s15 :: s16 :: .own (ds.eraseIdx k) :: r) := by
  obtain ⟨h1, _⟩ := List.getElem?_eq_some_iff.mp h
  show (if 0 ≤ ((k : Nat) : Int) ∧ ((k : Nat) : Int) < ds.length then (match ds[((k : Nat) : Int).toNat]? with
    | some d => Res.ok d (s0 :: s1 :: s2 :: s3 :: s4 :: s5 :: s6 :: s7 :: s8 :: s9 :: s10 :: s11 :: s12 :: s13 :: s14 :: s15 :: s16 :: .own (ds.eraseIdx ((k : Nat) : Int).toNat) :: r)
    | none => .bad) else .bad) = _
  rw [if_pos ⟨by omega, by omega⟩, Int.toNat_natCast, h]
theorem x_pa18 {s0 s1 s2 s3 s4 s5 s6 s7 s8 s9 s10 s11 s12 s13 s14 s15 s16 s17 : Sl} {ds : List D} {d : D} {k : Nat} {r : En} (h : ds[k]? = some d) : popAtTo 18 (.int (k : Nat)) (s0 :: s1 :: s2 :: s3 :: s4 :: s5 :: s6 :: s7 :: s8 :: s9 :: s10 :: s11 :: s12 :: s13 :: s14 :: s15 :: s16 :: s17 :: .own ds :: r) = .ok d (s0 :: s1 :: s2 :: s3 :: s4 :: s5 :: s6 :: s7 :: s8 :: s9 :: s10 :: s11 :: s12 :: s13 :: s14 :: s15 :: s16 :: s17 :: .own (ds.eraseIdx k) :: r) := by
  obtain ⟨h1, _⟩ := List.getElem?_eq_some_iff.mp h
  show (if 0 ≤ ((k : Nat) : Int) ∧ ((k : Nat) : Int) < ds.length then (match ds[((k : Nat) : Int).toNat]? with
    | some d => Res.ok d (s0 :: s1 :: s2 :: s3 :: s4 :: s5 :: s6 :: s7 :: s8 :: s9 :: s10 :: s11 :: s12 :: s13 :: s14 :: s15 :: s16 :: s17 :: .own (ds.eraseIdx ((k : Nat) : Int).toNat) :: r)
    | none => .bad) else .bad) = _
  rw [if_pos ⟨by omega, by omega⟩, Int.toNat_natCast, h]
theorem x_pa19 {s0 s1 s2 s3 s4 s5 s6 s7 s8 s9 s10 s11 s12 s13 s14 s15 s16 s17 s18 : Sl} {ds : List D} {d : D} {k : Nat} {r : En} (h : ds[k]? = some d) : popAtTo 19 (.int (k : Nat)) (s0 :: s1 :: s2 :: s3 :: s4 :: s5 :: s6 :: s7 :: s8 :: s9 :: s10 :: s11 :: s12 :: s13 :: s14 :: s15 :: s16 :: s17 :: s18 :: .own ds :: r) = .ok d (s0 :: s1 :: s2 :: s3 :: s4 :: s5 :: s6 :: s7 :: s8 :: s9 :: s10 :: s11 :: s12 :: s13 :: s14 :: s15 :: s16 :: s17 :: s18 :: .own (ds.eraseIdx k) :: r) := by
  obtain ⟨h1, _⟩ := List.getElem?_eq_some_iff.mp h
  show (if 0 ≤ ((k : Nat) : Int) ∧ ((k : Nat) : Int) < ds.length then (match ds[((k : Nat) : Int).toNat]? with
    | some d => Res.ok d (s0 :: s1 :: s2 :: s3 :: s4 :: s5 :: s6 :: s7 :: s8 :: s9 :: s10 :: s11 :: s12 :: s13 :: s14 :: s15 :: s16 :: s17 :: s18 :: .own (ds.eraseIdx ((k : Nat) : Int).toNat) :: r)
    | none => .bad) else .bad) = _
  rw [if_pos ⟨by omega, by omega⟩, Int.toNat_natCast, h]
theorem x_pa20 {s0 s1 s2 s3 s4 s5 s6 s7 s8 s9 s10 s11 s12 s13 s14 s15 s16 s17 s18 s19 : Sl} {ds : List D} {d : D} {k : Nat} {r : En} (h : ds[k]? = some d) : popAtTo 20 (.int (k : Nat)) (s0 :: s1 :: s2 :: s3 :: s4 :: s5 :: s6 :: s7 :: s8 :: s9 :: s10 :: s11 :: s12 :: s13 :: s14 :: s15 :: s16 :: s17 :: s18 :: s19 :: .own ds :: r) = .ok d (s0 :: s1 :: s2 :: s3 :: s4 :: s5 :: s6 :: s7 :: s8 :: s9 :: s10 :: s11 :: s12 :: s13 :: s14 :: s15 :: s16 :: s17 :: s18 :: s19 :: .own (ds.eraseIdx k) :: r) := by
  obtain ⟨h1, _⟩ := List.getElem?_eq_some_iff.mp h
  show (if 0 ≤ ((k : Nat) : Int) ∧ ((k : Nat) : Int) < ds.length then (match ds[((k : Nat) : Int).toNat]? with
    | some d => Res.ok d (s0 :: s1 :: s2 :: s3 :: s4 :: s5 :: s6 :: s7 :: s8 :: s9 :: s10 :: s11 :: s12 :: s13 :: s14 :: s15 :: s16 :: s17 :: s18 :: s19 :: .own (ds.eraseIdx ((k : Nat) : Int).toNat) :: r)
    | none => .bad) else .bad) = _
  rw [if_pos ⟨by omega, by omega⟩, Int.toNat_natCast, h]
theorem x_pa21 {s0 s1 s2 s3 s4 s5 s6 s7 s8 s9 s10 s11 s12 s13 s14 s15 s16 s17 s18 s19 s20 : Sl} {ds : List D} {d : D} {k : Nat} {r : En} (h : ds[k]? = some d) : popAtTo 21 (.int (k : Nat)) (s0 :: s1 :: s2 :: s3 :: s4 :: s5 :: s6 :: s7 :: s8 :: s9 :: s10 :: s11 :: s12 :: s13 :: s14 :: s15 :: s16 :: s17 :: s18 :: s19 :: s20 :: .own ds :: r) = .ok d (s0 :: s1 :: s2 :: s3 :: s4 :: s5 :: s6 :: s7 :: s8 :: s9 :: s10 :: s11 :: s12 :: s13 :: s14 :: s15 :: s16 :: s17 :: s18 :: s19 :: s20 :: .own (ds.eraseIdx k) :: r) := by
  obtain ⟨h1, _⟩ := List.getElem?_eq_some_iff.mp h
  show (if 0 ≤ ((k : Nat) : Int) ∧ ((k : Nat) : Int) < ds.length then (match ds[((k : Nat) : Int).toNat]? with
    | some d => Res.ok d (s0 :: s1 :: s2 :: s3 :: s4 :: s5 :: s6 :: s7 :: s8 :: s9 :: s10 :: s11 :: s12 :: s13 :: s14 :: s15 :: s16 :: s17 :: s18 :: s19 :: s20 :: .own (ds.eraseIdx ((k : Nat) : Int).toNat) :: r)
    | none => .bad) else .bad) = _
  rw [if_pos ⟨by omega, by omega⟩, Int.toNat_natCast, h]
theorem x_pa22 {s0 s1 s2 s3 s4 s5 s6 s7 s8 s9 s10 s11 s12 s13 s14 s15 s16 s17 s18 s19 s20 s21 : Sl} {ds : List D} {d : D} {k : Nat} {r : En} (h : ds[k]? = some d) : popAtTo 22 (.int (k : Nat)) (s0 :: s1 :: s2 :: s3 :: s4 :: s5 :: s6 :: s7 :: s8 :: s9 :: s10 :: s11 :: s12 :: s13 :: s14 :: s15 :: s16 :: s17 :: s18 :: s19 :: s20 :: s21 :: .own ds :: r) = .ok d (s0 :: s1 :: s2 :: s3 :: s4 :: s5 :: s6 :: s7 :: s8 :: s9 :: s10 :: s11 :: s12 :: s13 :: s14 :: s15 :: s16 :: s17 :: s18 :: s19 :: s20 :: s21 :: .own (ds.eraseIdx k) :: r) := by
  obtain ⟨h1, _⟩ := List.getElem?_eq_some_iff.mp h
  show (if 0 ≤ ((k : Nat) : Int) ∧ ((k : Nat) : Int) < ds.length then (match ds[((k : Nat) : Int).toNat]? with
    | some d => Res.ok d (s0 :: s1 :: s2 :: s3 :: s4 :: s5 :: s6 :: s7 :: s8 :: s9 :: s10 :: s11 :: s12 :: s13 :: s14 :: s15 :: s16 :: s17 :: s18 :: s19 :: s20 :: s21 :: .own (ds.eraseIdx ((k : Nat) : Int).toNat) :: r)
    | none => .bad) else .bad) = _
  rw [if_pos ⟨by omega, by omega⟩, Int.toNat_natCast, h]
theorem x_pa23 {s0 s1 s2 s3 s4 s5 s6 s7 s8 s9 s10 s11 s12 s13 s14 s15 s16 s17 s18 s19 s20 s21 s22 : Sl} {ds : List D} {d : D} {k : Nat} {r : En} (h : ds[k]? = some d) : popAtTo 23 (.int (k : Nat)) (s0 :: s1 :: s2 :: s3 :: s4 :: s5 :: s6 :: s7 :: s8 :: s9 :: s10 :: s11 :: s12 :: s13 :: s14 :: s15 :: s16 :: s17 :: s18 :: s19 :: s20 :: s21 :: s22 :: .own ds :: r) = .ok d (s0 :: s1 :: s2 :: s3 :: s4 :: s5 :: s6 :: s7 :: s8 :: s9 :: s10 :: s11 :: s12 :: s13 :: s14 :: s15 :: s16 :: s17 :: s18 :: s19 :: s20 :: s21 :: s22 :: .own (ds.eraseIdx k) :: r) := by
  obtain ⟨h1, _⟩ := List.getElem?_eq_some_iff.mp h
  show (if 0 ≤ ((k : Nat) : Int) ∧ ((k : Nat) : Int) < ds.length then (match ds[((k : Nat) : Int).toNat]? with
    | some d => Res.ok d (s0 :: s1 :: s2 :: s3 :: s4 :: s5 :: s6 :: s7 :: s8 :: s9 :: s10 :: s11 :: s12 :: s13 :: s14 :: s15 :: s16 :: s17 :: s18 :: s19 :: s20 :: s21 :: s22 :: .own (ds.eraseIdx ((k : Nat) : Int).toNat) :: r)
    | none => .bad) else .bad) = _
  rw [if_pos ⟨by omega, by omega⟩, Int.toNat_natCast, h]
theorem x_pa24 {s0 s1 s2 s3 s4 s5 s6 s7 s8 s9 s10 s11 s12 s13 s14 s15 s16 s17 s18 s19 s20 s21 s22 s23 : Sl} {ds : List D} {d : D} {k : Nat} {r : En} (h : ds[k]? = some d) : popAtTo 24 (.int (k : Nat)) (s0 :: s1 :: s2 :: s3 :: s4 :: s5 :: s6 :: s7 :: s8 :: s9 :: s10 :: s11 :: s12 :: s13 :: s14 :: s15 :: s16 :: s17 :: s18 :: s19 :: s20 :: s21 :: s22 :: s23 :: .own ds :: r) = .ok d (s0 :: s1 :: s2 :: s3 :: s4 :: s5 :: s6 :: s7 :: s8 :: s9 :: s10 :: s11 :: s12 :: s13 :: s14 :: s15 :: s16 :: s17 :: s18 :: s19 :: s20 :: s21 :: s22 :: s23 :: .own (ds.eraseIdx k) :: r) := by
  obtain ⟨h1, _⟩ := List.getElem?_eq_some_iff.mp h
  show (if 0 ≤ ((k : Nat) : Int) ∧ ((k : Nat) : Int) < ds.length then (match ds[((k : Nat) : Int).toNat]? with
    | some d => Res.ok d (s0 :: s1 :: s2 :: s3 :: s4 :: s5 :: s6 :: s7 :: s8 :: s9 :: s10 :: s11 :: s12 :: s13 :: s14 :: s15 :: s16 :: s17 :: s18 :: s19 :: s20 :: s21 :: s22 :: s23 :: .own (ds.eraseIdx ((k : Nat) : Int).toNat) :: r)
    | none => .bad) else .bad) = _
  rw [if_pos ⟨by omega, by omega⟩, Int.toNat_natCast, h]
theorem x_pa25 {s0 s1 s2 s3 s4 s5 s6 s7 s8 s9 s10 s11 s12 s13 s14 s15 s16 s17 s18 s19 s20 s21 s22 s23 s24 : Sl} {ds : List D} {d : D} {k : Nat} {r : En} (h : ds[k]? = some d) : popAtTo 25 (.int (k : Nat)) (s0 :: s1 :: s2 :: s3 :: s4 :: s5 :: s6 :: s7 :: s8 :: s9 :: s10 :: s11 :: s12 :: s13 :: s14 :: s15 :: s16 :: s17 :: s18 :: s19 :: s20 :: s21 :: s22 :: s23 :: s24 :: .own ds :: r) = .ok d (s0 :: s1 :: s2 :: s3 :: s4 :: s5 :: s6 :: s7 :: s8 :: s9 :: s10 :: s11 :: s12 :: s13 :: s14 :: s15 :: s16 :: s17 :: s18 :: s19 :: s20 :: s21 :: s22 :: s23 :: s24 :: .own (ds.eraseIdx k) :: r) := by
  obtain ⟨h1, _⟩ := List.getElem?_eq_some_iff.mp h
  show (if 0 ≤ ((k : Nat) : Int) ∧ ((k : Nat) : Int) < ds.length then (match ds[((k : Nat) : Int).toNat]? with
    | some d => Res.ok d (s0 :: s1 :: s2 :: s3 :: s4 :: s5 :: s6 :: s7 :: s8 :: s9 :: s10 :: s11 :: s12 :: s13 :: s14 :: s15 :: s16 :: s17 :: s18 :: s19 :: s20 :: s21 :: s22 :: s23 :: s24 :: .own (ds.eraseIdx ((k : Nat) : Int).toNat) :: r)
    | none => .bad) else .bad) = _
  rw [if_pos ⟨by omega, by omega⟩, Int.toNat_natCast, h]
theorem x_re14 {s0 s1 s2 s3 s4 s5 s6 s7 s8 s9 s10 s11 s12 s13 : Sl} {ds : List D} {z : Str} {j : Nat} {r : En} (h : ds.all isStrD = true) (h' : ds.findIdx? (isThis z) = some j) : remTo 14 (.str z) (s0 :: s1 :: s2 :: s3 :: s4 :: s5 :: s6 :: s7 :: s8 :: s9 :: s10 :: s11 :: s12 :: s13 :: .own ds :: r) = .ok .none (s0 :: s1 :: s2 :: s3 :: s4 :: s5 :: s6 :: s7 :: s8 :: s9 :: s10 :: s11 :: s12 :: s13 :: .own (ds.eraseIdx j) :: r) := by
  show (if ds.all isStrD then (match ds.findIdx? (isThis z) with
    | some j => Res.ok PyData.none (s0 :: s1 :: s2 :: s3 :: s4 :: s5 :: s6 :: s7 :: s8 :: s9 :: s10 :: s11 :: s12 :: s13 :: .own (ds.eraseIdx j) :: r)
    | none => .bad) else .bad) = _
  rw [if_pos h, h']
theorem x_re15 {s0 s1 s2 s3 s4 s5 s6 s7 s8 s9 s10 s11 s12 s13 s14 : Sl} {ds : List D} {z : Str} {j : Nat} {r : En} (h : ds.all isStrD = true) (h' : ds.findIdx? (isThis z) = some j) : remTo 15 (.str z) (s0 :: s1 :: s2 :: s3 :: s4 :: s5 :: s6 :: s7 :: s8 :: s9 :: s10 :: s11 :: s12 :: s13 :: s14 :: .own ds :: r) = .ok .none (s0 :: s1 :: s2 :: s3 :: s4 :: s5 :: s6 :: s7 :: s8 :: s9 :: s10 :: s11 :: s12 :: s13 :: s14 :: .own (ds.eraseIdx j) :: r) := by
  show (if ds.all isStrD then (match ds.findIdx? (isThis z) with
    | some j => Res.ok PyData.none (s0 :: s1 :: s2 :: s3 :: s4 :: s5 :: s6 :: s7 :: s8 :: s9 :: s10 :: s11 :: s12 :: s13 :: s14 :: .own (ds.eraseIdx j) :: r)
    | none => .bad) else .bad) = _
  rw [if_pos h, h']
theorem x_re16 {s0 s1 s2 s3 s4 s5 s6 s7 s8 s9 s10 s11 s12 s13 s14 s15 : Sl} {ds : List D} {z : Str} {j : Nat} {r : En} (h : ds.all isStrD = true) (h' : ds.findIdx? (isThis z) = some j) : remTo 16 (.str z) (s0 :: s1 :: s2 :: s3 :: s4 :: s5 :: s6 :: s7 :: s8 :: s9 :: s10 :: s11 :: s12 :: s13 :: s14 :: s15 :: .own ds :: r) = .ok .none (s0 :: s1 :: s2 :: s3 :: s4 :: s5 :: s6 :: s7 :: s8 :: s9 :: s10 :: s11 :: s12 :: s13 :: s14 :: s15 :: .own (ds.eraseIdx j) :: r) := by
  show (if ds.all isStrD then (match ds.findIdx? (isThis z) with
    | some j => Res.ok PyData.none (s0 :: s1 :: s2 :: s3 :: s4 :: s5 :: s6 :: s7 :: s8 :: s9 :: s10 :: s11 :: s12 :: s13 :: s14 :: s15 :: .own (ds.eraseIdx j) :: r)
    | none => .bad) else .bad) = _
  rw [if_pos h, h']
theorem x_re17 {s0 s1 s2 s3 s4 s5 s6 s7 s8 s9 s10 s11 s12 s13 s14 s15 s16 : Sl} {ds : List D} {z : Str} {j : Nat} {r : En} (h : ds.all isStrD = true) (h' : ds.findIdx? (isThis z) = some j) : remTo 17 (.str z) (s0 :: s1 :: s2 :: s3 :: s4 :: s5 :: s6 :: s7 :: s8 :: s9 :: s10 :: s11 :: s12 :: s13 :: s14 :: s15 :: s16 :: .own ds :: r) = .ok .none (s0 :: s1 :: s2 :: s3 :: s4 :: s5 :: s6 :: s7 :: s8 :: s9 :: s10 :: s11 :: s12 :: s13 :: s14 :: s15 :: s16 :: .own (ds.eraseIdx j) :: r) := by
  show (if ds.all isStrD then (match ds.findIdx? (isThis z) with
    | some j => Res.ok PyData.none (s0 :: s1 :: s2 :: s3 :: s4 :: s5 :: s6 :: s7 :: s8 :: s9 :: s10 :: s11 :: s12 :: s13 :: s14 :: s15 :: s16 :: .own (ds.eraseIdx j) :: r)
    | none => .bad) else .bad) = _
  rw [if_pos h, h']
theorem x_re18 {s0 s1 s2 s3 s4 s5 s6 s7 s8 s9 s10 s11 s12 s13 s14 s15 s16 s17 : Sl} {ds : List D} {z : Str} {j : Nat} {r : En} (h : ds.all isStrD = true) (h' : ds.findIdx? (isThis z) = some j) : remTo 18 (.str z) (s0 :: s1 :: s2 :: s3 :: s4 :: s5 :: s6 :: s7 :: s8 :: s9 :: s10 :: s11 :: s12 :: s13 :: s14 :: s15 :: s16 :: s17 :: .own ds :: r) = .ok .none (s0 :: s1 :: s2 :: s3 :: s4 :: s5 :: s6 :: s7 :: s8 :: s9 :: s10 :: s11 :: s12 :: s13 :: s14 :: s15 :: s16 :: s17 :: .own (ds.eraseIdx j) :: r) := by
  show (if ds.all isStrD then (match ds.findIdx? (isThis z) with
    | some j => Res.ok PyData.none (s0 :: s1 :: s2 :: s3 :: s4 :: s5 :: s6 :: s7 :: s8 :: s9 :: s10 :: s11 :: s12 :: s13 :: s14 :: s15 :: s16 :: s17 :: .own (ds.eraseIdx j) :: r)
    | none => .bad) else .bad) = _
  rw [if_pos h, h']
theorem x_re19 {s0 s1 s2 s3 s4 s5 s6 s7 s8 s9 s10 s11 s12 s13 s14 s15 s16 s17 s18 : Sl} {ds : List D} {z : Str} {j : Nat} {r : En} (h : ds.all isStrD = true) (h' : ds.findIdx? (isThis z) = some j) : remTo 19 (.str z) (s0 :: s1 :: s2 :: s3 :: s4 :: s5 :: s6 :: s7 :: s8 :: s9 :: s10 :: s11 :: s12 :: s13 :: s14 :: s15 :: s16 :: s17 :: s18 :: .own ds :: r) = .ok .none (s0 :: s1 :: s2 :: s3 :: s4 :: s5 :: s6 :: s7 :: s8 :: s9 :: s10 :: s11 :: s12 :: s13 :: s14 :: s15 :: s16 :: s17 :: s18 :: .own (ds.eraseIdx j) :: r) := by
  show (if ds.all isStrD then (match ds.findIdx? (isThis z) with
    | some j => Res.ok PyData.none (s0 :: s1 :: s2 :: s3 :: s4 :: s5 :: s6 :: s7 :: s8 :: s9 :: s10 :: s11 :: s12 :: s13 :: s14 :: s15 :: s16 :: s17 :: s18 :: .own (ds.eraseIdx j) :: r)
    | none => .bad) else .bad) = _
  rw [if_pos h, h']
theorem x_re20 {s0 s1 s2 s3 s4 s5 s6 s7 s8 s9 s10 s11 s12 s13 s14 s15 s16 s17 s18 s19 : Sl} {ds : List D} {z : Str} {j : Nat} {r : En} (h : ds.all isStrD = true) (h' : ds.findIdx? (isThis z) = some j) : remTo 20 (.str z) (s0 :: s1 :: s2 :: s3 :: s4 :: s5 :: s6 :: s7 :: s8 :: s9 :: s10 :: s11 :: s12 :: s13 :: s14 :: s15 :: s16 :: s17 :: s18 :: s19 :: .own ds :: r) = .ok .none (s0 :: s1 :: s2 :: s3 :: s4 :: s5 :: s6 :: s7 :: s8 :: s9 :: s10 :: s11 :: s12 :: s13 :: s14 :: s15 :: s16 :: s17 :: s18 :: s19 :: .own (ds.eraseIdx j) :: r) := by
  show (if ds.all isStrD then (match ds.findIdx? (isThis z) with
    | some j => Res.ok PyData.none (s0 :: s1 :: s2 :: s3 :: s4 :: s5 :: s6 :: s7 :: s8 :: s9 :: s10 :: s11 :: s12 :: s13 :: s14 :: s15 :: s16 :: s17 :: s18 :: s19 :: .own (ds.eraseIdx j) :: r)
    | none => .bad) else .bad) = _
  rw [if_pos h, h']
theorem x_re21 {s0 s1 s2 s3 s4 s5 s6 s7 s8 s9 s10 s11 s12 s13 s14 s15 s16 s17 s18 s19 s20 : Sl} {ds : List D} {z : Str} {j : Nat} {r : En} (h : ds.all isStrD = true) (h' : ds.findIdx? (isThis z) = some j) : remTo 21 (.str z) (s0 :: s1 :: s2 :: s3 :: s4 :: s5 :: s6 :: s7 :: s8 :: s9 :: s10 :: s11 :: s12 :: s13 :: s14 :: s15 :: s16 :: s17 :: s18 :: s19 :: s20 :: .own ds :: r) = .ok .none (s0 :: s1 :: s2 :: s3 :: s4 :: s5 :: s6 :: s7 :: s8 :: s9 :: s10 :: s11 :: s12 :: s13 :: s14 :: s15 :: s16 :: s17 :: s18 :: s19 :: s20 :: .own (ds.eraseIdx j) :: r) := by
  show (if ds.all isStrD then (match ds.findIdx? (isThis z) with
    | some j => Res.ok PyData.none (s0 :: s1 :: s2 :: s3 :: s4 :: s5 :: s6 :: s7 :: s8 :: s9 :: s10 :: s11 :: s12 :: s13 :: s14 :: s15 :: s16 :: s17 :: s18 :: s19 :: s20 :: .own (ds.eraseIdx j) :: r)
    | none => .bad) else .bad) = _
  rw [if_pos h, h']
theorem x_re22 {s0 s1 s2 s3 s4 s5 s6 s7 s8 s9 s10 s11 s12 s13 s14 s15 s16 s17 s18 s19 s20 s21 : Sl} {ds : List D} {z : Str} {j : Nat} {r : En} (h : ds.all isStrD = true) (h' : ds.findIdx? (isThis z) = some j) : remTo 22 (.str z) (s0 :: s1 :: s2 :: s3 :: s4 :: s5 :: s6 :: s7 :: s8 :: s9 :: s10 :: s11 :: s12 :: s13 :: s14 :: s15 :: s16 :: s17 :: s18 :: s19 :: s20 :: s21 :: .own ds :: r) = .ok .none (s0 :: s1 :: s2 :: s3 :: s4 :: s5 :: s6 :: s7 :: s8 :: s9 :: s10 :: s11 :: s12 :: s13 :: s14 :: s15 :: s16 :: s17 :: s18 :: s19 :: s20 :: s21 :: .own (ds.eraseIdx j) :: r) := by
  show (if ds.all isStrD then (match ds.findIdx? (isThis z) with
    | some j => Res.ok PyData.none (s0 :: s1 :: s2 :: s3 :: s4 :: s5 :: s6 :: s7 :: s8 :: s9 :: s10 :: s11 :: s12 :: s13 :: s14 :: s15 :: s16 :: s17 :: s18 :: s19 :: s20 :: s21 :: .own (ds.eraseIdx j) :: r)
    | none => .bad) else .bad) = _
  rw [if_pos h, h']
theorem x_re23 {s0 s1 s2 s3 s4 s5 s6 s7 s8 s9 s10 s11 s12 s13 s14 s15 s16 s17 s18 s19 s20 s21 s22 : Sl} {ds : List D} {z : Str} {j : Nat} {r : En} (h : ds.all isStrD = true) (h' : ds.findIdx? (isThis z) = some j) : remTo 23 (.str z) (s0 :: s1 :: s2 :: s3 :: s4 :: s5 :: s6 :: s7 :: s8 :: s9 :: s10 :: s11 :: s12 :: s13 :: s14 :: s15 :: s16 :: s17 :: s18 :: s19 :: s20 :: s21 :: s22 :: .own ds :: r) = .ok .none (s0 :: s1 :: s2 :: s3 :: s4 :: s5 :: s6 :: s7 :: s8 :: s9 :: s10 :: s11 :: s12 :: s13 :: s14 :: s15 :: s16 :: s17 :: s18 :: s19 :: s20 :: s21 :: s22 :: .own (ds.eraseIdx j) :: r) := by
  show (if ds.all isStrD then (match ds.findIdx? (isThis z) with
    | some j => Res.ok PyData.none (s0 :: s1 :: s2 :: s3 :: s4 :: s5 :: s6 :: s7 :: s8 :: s9 :: s10 :: s11 :: s12 :: s13 :: s14 :: s15 :: s16 :: s17 :: s18 :: s19 :: s20 :: s21 :: s22 :: .own (ds.eraseIdx j) :: r)
    | none => .bad) else .bad) = _
  rw [if_pos h, h']
theorem x_re24 {s0 s1 s2 s3 s4 s5 s6 s7 s8 s9 s10 s11 s12 s13 s14 s15 s16 s17 s18 s19 s20 s21 s22 s23 : Sl} {ds : List D} {z : Str} {j : Nat} {r : En} (h : ds.all isStrD = true) (h' : ds.findIdx? (isThis z) = some j) : remTo 24 (.str z) (s0 :: s1 :: s2 :: s3 :: s4 :: s5 :: s6 :: s7 :: s8 :: s9 :: s10 :: s11 :: s12 :: s13 :: s14 :: s15 :: s16 :: s17 :: s18 :: s19 :: s20 :: s21 :: s22 :: s23 :: .own ds :: r) = .ok .none (s0 :: s1 :: s2 :: s3 :: s4 :: s5 :: s6 :: s7 :: s8 :: s9 :: s10 :: s11 :: s12 :: s13 :: s14 :: s15 :: s16 :: s17 :: s18 :: s19 :: s20 :: s21 :: s22 :: s23 :: .own (ds.eraseIdx j) :: r) := by
  show (if ds.all isStrD then (match ds.findIdx? (isThis z) with
    | some j => Res.ok PyData.none (s0 :: s1 :: s2 :: s3 :: s4 :: s5 :: s6 :: s7 :: s8 :: s9 :: s10 :: s11 :: s12 :: s13 :: s14 :: s15 :: s16 :: s17 :: s18 :: s19 :: s20 :: s21 :: s22 :: s23 :: .own (ds.eraseIdx j) :: r)
    | none => .bad) else .bad) = _
  rw [if_pos h, h']
theorem x_re25 {s0 s1 s2 s3 s4 s5 s6 s7 s8 s9 s10 s11 s12 s13 s14 s15 s16 s17 s18 s19 s20 s21 s22 s23 s24 : Sl} {ds : List D} {z : Str} {j : Nat} {r : En} (h : ds.all isStrD = true) (h' : ds.findIdx? (isThis z) = some j) : remTo 25 (.str z) (s0 :: s1 :: s2 :: s3 :: s4 :: s5 :: s6 :: s7 :: s8 :: s9 :: s10 :: s11 :: s12 :: s13 :: s14 :: s15 :: s16 :: s17 :: s18 :: s19 :: s20 :: s21 :: s22 :: s23 :: s24 :: .own ds :: r) = .ok .none (s0 :: s1 :: s2 :: s3 :: s4 :: s5 :: s6 :: s7 :: s8 :: s9 :: s10 :: s11 :: s12 :: s13 :: s14 :: s15 :: s16 :: s17 :: s18 :: s19 :: s20 :: s21 :: s22 :: s23 :: s24 :: .own (ds.eraseIdx j) :: r) := by
  show (if ds.all isStrD then (match ds.findIdx? (isThis z) with
    | some j => Res.ok PyData.none (s0 :: s1 :: s2 :: s3 :: s4 :: s5 :: s6 :: s7 :: s8 :: s9 :: s10 :: s11 :: s12 :: s13 :: s14 :: s15 :: s16 :: s17 :: s18 :: s19 :: s20 :: s21 :: s22 :: s23 :: s24 :: .own (ds.eraseIdx j) :: r)
    | none => .bad) else .bad) = _
  rw [if_pos h, h']
theorem x_ixp14 {s0 s1 s2 s3 s4 s5 s6 s7 s8 s9 s10 s11 s12 s13 : Sl} {ds : List D} {d : D} {r : En} (A : M D) (k : Nat) (h : ds[k]? = some d) : ixN 14 A (ret (.int (k : Nat))) (s0 :: s1 :: s2 :: s3 :: s4 :: s5 :: s6 :: s7 :: s8 :: s9 :: s10 :: s11 :: s12 :: s13 :: .par ds :: r) = .ok d (s0 :: s1 :: s2 :: s3 :: s4 :: s5 :: s6 :: s7 :: s8 :: s9 :: s10 :: s11 :: s12 :: s13 :: .par ds :: r) := by
  show (if 0 ≤ ((k : Nat) : Int) then (match ds[((k : Nat) : Int).toNat]? with
    | some d => Res.ok d (s0 :: s1 :: s2 :: s3 :: s4 :: s5 :: s6 :: s7 :: s8 :: s9 :: s10 :: s11 :: s12 :: s13 :: .par ds :: r)
    | none => .bad) else .bad) = _
  rw [if_pos (by omega), Int.toNat_natCast, h]
theorem x_ixp15 {s0 s1 s2 s3 s4 s5 s6 s7 s8 s9 s10 s11 s12 s13 s14 : Sl} {ds : List D} {d : D} {r : En} (A : M D) (k : Nat) (h : ds[k]? = some d) : ixN 15 A (ret (.int (k : Nat))) (s0 :: s1 :: s2 :: s3 :: s4 :: s5 :: s6 :: s7 :: s8 :: s9 :: s10 :: s11 :: s12 :: s13 :: s14 :: .par ds :: r) = .ok d (s0 :: s1 :: s2 :: s3 :: s4 :: s5 :: s6 :: s7 :: s8 :: s9 :: s10 :: s11 :: s12 :: s13 :: s14 :: .par ds :: r) := by
  show (if 0 ≤ ((k : Nat) : Int) then (match ds[((k : Nat) : Int).toNat]? with
    | some d => Res.ok d (s0 :: s1 :: s2 :: s3 :: s4 :: s5 :: s6 :: s7 :: s8 :: s9 :: s10 :: s11 :: s12 :: s13 :: s14 :: .par ds :: r)
    | none => .bad) else .bad) = _
  rw [if_pos (by omega), Int.toNat_natCast, h]
theorem x_ixp16 {s0 s1 s2 s3 s4 s5 s6 s7 s8 s9 s10 s11 s12 s13 s14 s15 : Sl} {ds : List D} {d : D} {r : En} (A : M D) (k : Nat) (h : ds[k]? = some d) : ixN 16 A (ret (.int (k : Nat))) (s0 :: s1 :: s2 :: s3 :: s4 :: s5 :: s6 :: s7 :: s8 :: s9 :: s10 :: s11 :: s12 :: s13 :: s14 :: s15 :: .par ds :: r) = .ok d (s0 :: s1 :: s2 :: s3 :: s4 :: s5 :: s6 :: s7 :: s8 :: s9 :: s10 :: s11 :: s12 :: s13 :: s14 :: s15 :: .par ds :: r) := by
  show (if 0 ≤ ((k : Nat) : Int) then (match ds[((k : Nat) : Int).toNat]? with
    | some d => Res.ok d (s0 :: s1 :: s2 :: s3 :: s4 :: s5 :: s6 :: s7 :: s8 :: s9 :: s10 :: s11 :: s12 :: s13 :: s14 :: s15 :: .par ds :: r)
    | none => .bad) else .bad) = _
  rw [if_pos (by omega), Int.toNat_natCast, h]
theorem x_ixp17 {s0 s1 s2 s3 s4 s5 s6 s7 s8 s9 s10 s11 s12 s13 s14 s15 s16 : Sl} {ds : List D} {d : D} {r : En} (A : M D) (k : Nat) (h : ds[k]? = some d) : ixN 17 A (ret (.int (k : Nat))) (s0 :: s1 :: s2 :: s3 :: s4 :: s5 :: s6 :: s7 :: s8 :: s9 :: s10 :: s11 :: s12 :: s13 :: s14 :: s15 :: s16 :: .par ds :: r) = .ok d (s0 :: s1 :: s2 :: s3 :: s4 :: s5 :: s6 :: s7 :: s8 :: s9 :: s10 :: s11 :: s12 :: s13 :: s14 :: s15 :: s16 :: .par ds :: r) := by
  show (if 0 ≤ ((k : Nat) : Int) then (match ds[((k : Nat) : Int).toNat]? with
    | some d => Res.ok d (s0 :: s1 :: s2 :: s3 :: s4 :: s5 :: s6 :: s7 :: s8 :: s9 :: s10 :: s11 :: s12 :: s13 :: s14 :: s15 :: s16 :: .par ds :: r)
    | none => .bad) else .bad) = _
  rw [if_pos (by omega), Int.toNat_natCast, h]
theorem x_ixp18 {s0 s1 s2 s3 s4 s5 s6 s7 s8 s9 s10 s11 s12 s13 s14 s15 s16 s17 : Sl} {ds : List D} {d : D} {r : En} (A : M D) (k : Nat) (h : ds[k]? = some d) : ixN 18 A (ret (.int (k : Nat))) (s0 :: s1 :: s2 :: s3 :: s4 :: s5 :: s6 :: s7 :: s8 :: s9 :: s10 :: s11 :: s12 :: s13 :: s14 :: s15 :: s16 :: s17 :: .par ds :: r) = .ok d (s0 :: s1 :: s2 :: s3 :: s4 :: s5 :: s6 :: s7 :: s8 :: s9 :: s10 :: s11 :: s12 :: s13 :: s14 :: s15 :: s16 :: s17 :: .par ds :: r) := by
  show (if 0 ≤ ((k : Nat) : Int) then (match ds[((k : Nat) : Int).toNat]? with
    | some d => Res.ok d (s0 :: s1 :: s2 :: s3 :: s4 :: s5 :: s6 :: s7 :: s8 :: s9 :: s10 :: s11 :: s12 :: s13 :: s14 :: s15 :: s16 :: s17 :: .par ds :: r)
    | none => .bad) else .bad) = _
  rw [if_pos (by omega), Int.toNat_natCast, h]
theorem x_ixp19 {s0 s1 s2 s3 s4 s5 s6 s7 s8 s9 s10 s11 s12 s13 s14 s15 s16 s17 s18 : Sl} {ds : List D} {d : D} {r : En} (A : M D) (k : Nat) (h : ds[k]? = some d) : ixN 19 A (ret (.int (k : Nat))) (s0 :: s1 :: s2 :: s3 :: s4 :: s5 :: s6 :: s7 :: s8 :: s9 :: s10 :: s11 :: s12 :: s13 :: s14 :: s15 :: s16 :: s17 :: s18 :: .par ds :: r) = .ok d (s0 :: s1 :: s2 :: s3 :: s4 :: s5 :: s6 :: s7 :: s8 :: s9 :: s10 :: s11 :: s12 :: s13 :: s14 :: s15 :: s16 :: s17 :: s18 :: .par ds :: r) := by
  show (if 0 ≤ ((k : Nat) : Int) then (match ds[((k : Nat) : Int).toNat]? with
    | some d => Res.ok d (s0 :: s1 :: s2 :: s3 :: s4 :: s5 :: s6 :: s7 :: s8 :: s9 :: s10 :: s11 :: s12 :: s13 :: s14 :: s15 :: s16 :: s17 :: s18 :: .par ds :: r)
    | none => .bad) else .bad) = _
  rw [if_pos (by omega), Int.toNat_natCast, h]
theorem x_ixp20 {s0 s1 s2 s3 s4 s5 s6 s7 s8 s9 s10 s11 s12 s13 s14 s15 s16 s17 s18 s19 : Sl} {ds : List D} {d : D} {r : En} (A : M D) (k : Nat) (h : ds[k]? = some d) : ixN 20 A (ret (.int (k : Nat))) (s0 :: s1 :: s2 :: s3 :: s4 :: s5 :: s6 :: s7 :: s8 :: s9 :: s10 :: s11 :: s12 :: s13 :: s14 :: s15 :: s16 :: s17 :: s18 :: s19 :: .par ds :: r) = .ok d (s0 :: s1 :: s2 :: s3 :: s4 :: s5 :: s6 :: s7 :: s8 :: s9 :: s10 :: s11 :: s12 :: s13 :: s14 :: s15 :: s16 :: s17 :: s18 :: s19 :: .par ds :: r) := by
  show (if 0 ≤ ((k : Nat) : Int) then (match ds[((k : Nat) : Int).toNat]? with
    | some d => Res.ok d (s0 :: s1 :: s2 :: s3 :: s4 :: s5 :: s6 :: s7 :: s8 :: s9 :: s10 :: s11 :: s12 :: s13 :: s14 :: s15 :: s16 :: s17 :: s18 :: s19 :: .par ds :: r)
    | none => .bad) else .bad) = _
  rw [if_pos (by omega), Int.toNat_natCast, h]
theorem x_ixp21 {s0 s1 s2 s3 s4 s5 s6 s7 s8 s9 s10 s11 s12 s13 s14 s15 s16 s17 s18 s19 s20 : Sl} {ds : List D} {d : D} {r : En} (A : M D) (k : Nat) (h : ds[k]? = some d) : ixN 21 A (ret (.int (k : Nat))) (s0 :: s1 :: s2 :: s3 :: s4 :: s5 :: s6 :: s7 :: s8 :: s9 :: s10 :: s11 :: s12 :: s13 :: s14 :: s15 :: s16 :: s17 :: s18 :: s19 :: s20 :: .par ds :: r) = .ok d (s0 :: s1 :: s2 :: s3 :: s4 :: s5 :: s6 :: s7 :: s8 :: s9 :: s10 :: s11 :: s12 :: s13 :: s14 :: s15 :: s16 :: s17 :: s18 :: s19 :: s20 :: .par ds :: r) := by
  show (if 0 ≤ ((k : Nat) : Int) then (match ds[((k : Nat) : Int).toNat]? with
    | some d => Res.ok d (s0 :: s1 :: s2 :: s3 :: s4 :: s5 :: s6 :: s7 :: s8 :: s9 :: s10 :: s11 :: s12 :: s13 :: s14 :: s15 :: s16 :: s17 :: s18 :: s19 :: s20 :: .par ds :: r)
    | none => .bad) else .bad) = _
  rw [if_pos (by omega), Int.toNat_natCast, h]
theorem x_ixp22 {s0 s1 s2 s3 s4 s5 s6 s7 s8 s9 s10 s11 s12 s13 s14 s15 s16 s17 s18 s19 s20 s21 : Sl} {ds : List D} {d : D} {r : En} (A : M D) (k : Nat) (h : ds[k]? = some d) : ixN 22 A (ret (.int (k : Nat))) (s0 :: s1 :: s2 :: s3 :: s4 :: s5 :: s6 :: s7 :: s8 :: s9 :: s10 :: s11 :: s12 :: s13 :: s14 :: s15 :: s16 :: s17 :: s18 :: s19 :: s20 :: s21 :: .par ds :: r) = .ok d (s0 :: s1 :: s2 :: s3 :: s4 :: s5 :: s6 :: s7 :: s8 :: s9 :: s10 :: s11 :: s12 :: s13 :: s14 :: s15 :: s16 :: s17 :: s18 :: s19 :: s20 :: s21 :: .par ds :: r) := by
  show (if 0 ≤ ((k : Nat) : Int) then (match ds[((k : Nat) : Int).toNat]? with
    | some d => Res.ok d (s0 :: s1 :: s2 :: s3 :: s4 :: s5 :: s6 :: s7 :: s8 :: s9 :: s10 :: s11 :: s12 :: s13 :: s14 :: s15 :: s16 :: s17 :: s18 :: s19 :: s20 :: s21 :: .par ds :: r)
    | none => .bad) else .bad) = _
  rw [if_pos (by omega), Int.toNat_natCast, h]
theorem x_ixp23 {s0 s1 s2 s3 s4 s5 s6 s7 s8 s9 s10 s11 s12 s13 s14 s15 s16 s17 s18 s19 s20 s21 s22 : Sl} {ds : List D} {d : D} {r : En} (A : M D) (k : Nat) (h : ds[k]? = some d) : ixN 23 A (ret (.int (k : Nat))) (s0 :: s1 :: s2 :: s3 :: s4 :: s5 :: s6 :: s7 :: s8 :: s9 :: s10 :: s11 :: s12 :: s13 :: s14 :: s15 :: s16 :: s17 :: s18 :: s19 :: s20 :: s21 :: s22 :: .par ds :: r) = .ok d (s0 :: s1 :: s2 :: s3 :: s4 :: s5 :: s6 :: s7 :: s8 :: s9 :: s10 :: s11 :: s12 :: s13 :: s14 :: s15 :: s16 :: s17 :: s18 :: s19 :: s20 :: s21 :: s22 :: .par ds :: r) := by
  show (if 0 ≤ ((k : Nat) : Int) then (match ds[((k : Nat) : Int).toNat]? with
    | some d => Res.ok d (s0 :: s1 :: s2 :: s3 :: s4 :: s5 :: s6 :: s7 :: s8 :: s9 :: s10 :: s11 :: s12 :: s13 :: s14 :: s15 :: s16 :: s17 :: s18 :: s19 :: s20 :: s21 :: s22 :: .par ds :: r)
    | none => .bad) else .bad) = _
  rw [if_pos (by omega), Int.toNat_natCast, h]
theorem x_ixp24 {s0 s1 s2 s3 s4 s5 s6 s7 s8 s9 s10 s11 s12 s13 s14 s15 s16 s17 s18 s19 s20 s21 s22 s23 : Sl} {ds : List D} {d : D} {r : En} (A : M D) (k : Nat) (h : ds[k]? = some d) : ixN 24 A (ret (.int (k : Nat))) (s0 :: s1 :: s2 :: s3 :: s4 :: s5 :: s6 :: s7 :: s8 :: s9 :: s10 :: s11 :: s12 :: s13 :: s14 :: s15 :: s16 :: s17 :: s18 :: s19 :: s20 :: s21 :: s22 :: s23 :: .par ds :: r) = .ok d (s0 :: s1 :: s2 :: s3 :: s4 :: s5 :: s6 :: s7 :: s8 :: s9 :: s10 :: s11 :: s12 :: s13 :: s14 :: s15 :: s16 :: s17 :: s18 :: s19 :: s20 :: s21 :: s22 :: s23 :: .par ds :: r) := by
  show (if 0 ≤ ((k : Nat) : Int) then (match ds[((k : Nat) : Int).toNat]? with
    | some d => Res.ok d (s0 :: s1 :: s2 :: s3 :: s4 :: s5 :: s6 :: s7 :: s8 :: s9 :: s10 :: s11 :: s12 :: s13 :: s14 :: s15 :: s16 :: s17 :: s18 :: s19 :: s20 :: s21 :: s22 :: s23 :: .par ds :: r)
    | none => .bad) else .bad) = _
  rw [if_pos (by omega), Int.toNat_natCast, h]
theorem x_ixp25 {s0 s1 s2 s3 s4 s5 s6 s7 s8 s9 s10 s11 s12 s13 s14 s15 s16 s17 s18 s19 s20 s21 s22 s23 s24 : Sl} {ds : List D} {d : D} {r : En} (A : M D) (k : Nat) (h : ds[k]? = some d) : ixN 25 A (ret (.int (k : Nat))) (s0 :: s1 :: s2 :: s3 :: s4 :: s5 :: s6 :: s7 :: s8 :: s9 :: s10 :: s11 :: s12 :: s13 :: s14 :: s15 :: s16 :: s17 :: s18 :: s19 :: s20 :: s21 :: s22 :: s23 :: s24 :: .par ds :: r) = .ok d (s0 :: s1 :: s2 :: s3 :: s4 :: s5 :: s6 :: s7 :: s8 :: s9 :: s10 :: s11 :: s12 :: s13 :: s14 :: s15 :: s16 :: s17 :: s18 :: s19 :: s20 :: s21 :: s22 :: s23 :: s24 :: .par ds :: r) := by
  show (if 0 ≤ ((k : Nat) : Int) then (match ds[((k : Nat) : Int).toNat]? with
    | some d => Res.ok d (s0 :: s1 :: s2 :: s3 :: s4 :: s5 :: s6 :: s7 :: s8 :: s9 :: s10 :: s11 :: s12 :: s13 :: s14 :: s15 :: s16 :: s17 :: s18 :: s19 :: s20 :: s21 :: s22 :: s23 :: s24 :: .par ds :: r)
    | none => .bad) else .bad) = _
  rw [if_pos (by omega), Int.toNat_natCast, h]
def ixTo (j : Nat) (y : D) (env' : En) : Res D := match lent j env', y with
  | some ds, .int k => if 0 ≤ k then (match ds[k.toNat]? with
    | some d => .ok d env'
    | none => .bad) else .bad
  | _, _ => .bad
theorem x_ixo0 {ds : List D} {r : En} (A I : M D) : ixN 0 A I (.own ds :: r) = (I (.own ds :: r)).andThen (ixTo 0) := rfl
theorem x_ixt0 {ds : List D} {d : D} {k : Nat} {r : En} (h : ds[k]? = some d) : ixTo 0 (.int (k : Nat)) (.own ds :: r) = .ok d (.own ds :: r) := by
  show (if 0 ≤ ((k : Nat) : Int) then (match ds[((k : Nat) : Int).toNat]? with
    | some d => Res.ok d (.own ds :: r)
    | none => .bad) else .bad) = _
  rw [if_pos (by omega), Int.toNat_natCast, h]
theorem x_ixo1 {s0 : Sl} {ds : List D} {r : En} (A I : M D) : ixN 1 A I (s0 :: .own ds :: r) = (I (s0 :: .own ds :: r)).andThen (ixTo 1) := rfl
theorem x_ixt1 {s0 : Sl} {ds : List D} {d : D} {k : Nat} {r : En} (h : ds[k]? = some d) : ixTo 1 (.int (k : Nat)) (s0 :: .own ds :: r) = .ok d (s0 :: .own ds :: r) := by
  show (if 0 ≤ ((k : Nat) : Int) then (match ds[((k : Nat) : Int).toNat]? with
    | some d => Res.ok d (s0 :: .own ds :: r)
    | none => .bad) else .bad) = _
  rw [if_pos (by omega), Int.toNat_natCast, h]
theorem x_ixo2 {s0 s1 : Sl} {ds : List D} {r : En} (A I : M D) : ixN 2 A I (s0 :: s1 :: .own ds :: r) = (I (s0 :: s1 :: .own ds :: r)).andThen (ixTo 2) := rfl
theorem x_ixt2 {s0 s1 : Sl} {ds : List D} {d : D} {k : Nat} {r : En} (h : ds[k]? = some d) : ixTo 2 (.int (k : Nat)) (s0 :: s1 :: .own ds :: r) = .ok d (s0 :: s1 :: .own ds :: r) := by
  show (if 0 ≤ ((k : Nat) : Int) then (match ds[((k : Nat) : Int).toNat]? with
    | some d => Res.ok d (s0 :: s1 :: .own ds :: r)
    | none => .bad) else .bad) = _
  rw [if_pos (by omega), Int.toNat_natCast, h]
theorem x_ixo3 {s0 s1 s2 : Sl} {ds : List D} {r : En} (A I : M D) : ixN 3 A I (s0 :: s1 :: s2 :: .own ds :: r) = (I (s0 :: s1 :: s2 :: .own ds :: r)).andThen (ixTo 3) := rfl
theorem x_ixt3 {s0 s1 s2 : Sl} {ds : List D} {d : D} {k : Nat} {r : En} (h : ds[k]? = some d) : ixTo 3 (.int (k : Nat)) (s0 :: s1 :: s2 :: .own ds :: r) = .ok d (s0 :: s1 :: s2 :: .own ds :: r) := by
  show (if 0 ≤ ((k : Nat) : Int) then (match ds[((k : Nat) : Int).toNat]? with
    | some d => Res.ok d (s0 :: s1 :: s2 :: .own ds :: r)
    | none => .bad) else .bad) = _
  rw [if_pos (by omega), Int.toNat_natCast, h]
theorem x_ixo4 {s0 s1 s2 s3 : Sl} {ds : List D} {r : En} (A I : M D) : ixN 4 A I (s0 :: s1 :: s2 :: s3 :: .own ds :: r) = (I (s0 :: s1 :: s2 :: s3 :: .own ds :: r)).andThen (ixTo 4) := rfl
theorem x_ixt4 {s0 s1 s2 s3 : Sl} {ds : List D} {d : D} {k : Nat} {r : En} (h : ds[k]? = some d) : ixTo 4 (.int (k : Nat)) (s0 :: s1 :: s2 :: s3 :: .own ds :: r) = .ok d (s0 :: s1 :: s2 :: s3 :: .own ds :: r) := by
  show (if 0 ≤ ((k : Nat) : Int) then (match ds[((k : Nat) : Int).toNat]? with
    | some d => Res.ok d (s0 :: s1 :: s2 :: s3 :: .own ds :: r)
    | none => .bad) else .bad) = _
  rw [if_pos (by omega), Int.toNat_natCast, h]
theorem x_ixo5 {s0 s1 s2 s3 s4 : Sl} {ds : List D} {r : En} (A I : M D) : ixN 5 A I (s0 :: s1 :: s2 :: s3 :: s4 :: .own ds :: r) = (I (s0 :: s1 :: s2 :: s3 :: s4 :: .own ds :: r)).andThen (ixTo 5) := rfl
theorem x_ixt5 {s0 s1 s2 s3 s4 : Sl} {ds : List D} {d : D} {k : Nat} {r : En} (h : ds[k]? = some d) : ixTo 5 (.int (k : Nat)) (s0 :: s1 :: s2 :: s3 :: s4 :: .own ds :: r) = .ok d (s0 :: s1 :: s2 :: s3 :: s4 :: .own ds :: r) := by
  show (if 0 ≤ ((k : Nat) : Int) then (match ds[((k : Nat) : Int).toNat]? with
    | some d => Res.ok d (s0 :: s1 :: s2 :: s3 :: s4 :: .own ds :: r)
    | none => .bad) else .bad) = _
  rw [if_pos (by omega), Int.toNat_natCast, h]
theorem x_ixo6 {s0 s1 s2 s3 s4 s5 : Sl} {ds : List D} {r : En} (A I : M D) : ixN 6 A I (s0 :: s1 :: s2 :: s3 :: s4 :: s5 :: .own ds :: r) = (I (s0 :: s1 :: s2 :: s3 :: s4 :: s5 :: .own ds :: r)).andThen (ixTo 6) := rfl
theorem x_ixt6 {s0 s1 s2 s3 s4 s5 : Sl} {ds : List D} {d : D} {k : Nat} {r : En} (h : ds[k]? = some d) : ixTo 6 (.int (k : Nat)) (s0 :: s1 :: s2 :: s3 :: s4 :: s5 :: .own ds :: r) = .ok d (s0 :: s1 :: s2 :: s3 :: s4 :: s5 :: .own ds :: r) := by
  show (if 0 ≤ ((k : Nat) : Int) then (match ds[((k : Nat) : Int).toNat]? with
    | some d => Res.ok d (s0 :: s1 :: s2 :: s3 :: s4 :: s5 :: .own ds :: r)
    | none => .bad) else .bad) = _
  rw [if_pos (by omega), Int.toNat_natCast, h]
theorem x_ixo7 {s0 s1 s2 s3 s4 s5 s6 : Sl} {ds : List D} {r : En} (A I : M D) : ixN 7 A I (s0 :: s1 :: s2 :: s3 :: s4 :: s5 :: s6 :: .own ds :: r) = (I (s0 :: s1 :: s2 :: s3 :: s4 :: s5 :: s6 :: .own ds :: r)).andThen (ixTo 7) := rfl
theorem x_ixt7 {s0 s1 s2 s3 s4 s5 s6 : Sl} {ds : List D} {d : D} {k : Nat} {r : En} (h : ds[k]? = some d) : ixTo 7 (.int (k : Nat)) (s0 :: s1 :: s2 :: s3 :: s4 :: s5 :: s6 :: .own ds :: r) = .ok d (s0 :: s1 :: s2 :: s3 :: s4 :: s5 :: s6 :: .own ds :: r) := by
  show (if 0 ≤ ((k : Nat) : Int) then (match ds[((k : Nat) : Int).toNat]? with
    | some d => Res.ok d (s0 :: s1 :: s2 :: s3 :: s4 :: s5 :: s6 :: .own ds :: r)
    | none => .bad) else .bad) = _
  rw [if_pos (by omega), Int.toNat_natCast, h]
theorem x_ixo8 {s0 s1 s2 s3 s4 s5 s6 s7 : Sl} {ds : List D} {r : En} (A I : M D) : ixN 8 A I (s0 :: s1 :: s2 :: s3 :: s4 :: s5 :: s6 :: s7 :: .own ds :: r) = (I (s0 :: s1 :: s2 :: s3 :: s4 :: s5 :: s6 :: s7 :: .own ds :: r)).andThen (ixTo 8) := rfl
theorem x_ixt8 {s0 s1 s2 s3 s4 s5 s6 s7 : Sl} {ds : List D} {d : D} {k : Nat} {r : En} (h : ds[k]? = some d) : ixTo 8 (.int (k : Nat)) (s0 :: s1 :: s2 :: s3 :: s4 :: s5 :: s6 :: s7 :: .own ds :: r) = .ok d (s0 :: s1 :: s2 :: s3 :: s4 :: s5 :: s6 :: s7 :: .own ds :: r) := by
  show (if 0 ≤ ((k : Nat) : Int) then (match ds[((k : Nat) : Int).toNat]? with
    | some d => Res.ok d (s0 :: s1 :: s2 :: s3 :: s4 :: s5 :: s6 :: s7 :: .own ds :: r)
    | none => .bad) else .bad) = _
  rw [if_pos (by omega), Int.toNat_natCast, h]
theorem x_ixo9 {s0 s1 s2 s3 s4 s5 s6 s7 s8 : Sl} {ds : List D} {r : En} (A I : M D) : ixN 9 A I (s0 :: s1 :: s2 :: s3 :: s4 :: s5 :: s6 :: s7 :: s8 :: .own ds :: r) = (I (s0 :: s1 :: s2 :: s3 :: s4 :: s5 :: s6 :: s7 :: s8 :: .own ds :: r)).andThen (ixTo 9) := rfl
theorem x_ixt9 {s0 s1 s2 s3 s4 s5 s6 s7 s8 : Sl} {ds : List D} {d : D} {k : Nat} {r : En} (h : ds[k]? = some d) : ixTo 9 (.int (k : Nat)) (s0 :: s1 :: s2 :: s3 :: s4 :: s5 :: s6 :: s7 :: s8 :: .own ds :: r) = .ok d (s0 :: s1 :: s2 :: s3 :: s4 :: s5 :: s6 :: s7 :: s8 :: .own ds :: r) := by
  show (if 0 ≤ ((k : Nat) : Int) then (match ds[((k : Nat) : Int).toNat]? with
    | some d => Res.ok d (s0 :: s1 :: s2 :: s3 :: s4 :: s5 :: s6 :: s7 :: s8 :: .own ds :: r)
    | none => .bad) else .bad) = _
  rw [if_pos (by omega), Int.toNat_natCast, h]
theorem x_ixo10 {s0 s1 s2 s3 s4 s5 s6 s7 s8 s9 : Sl} {ds : List D} {r : En} (A I : M D) : ixN 10 A I (s0 :: s1 :: s2 :: s3 :: s4 :: s5 :: s6 :: s7 :: s8 :: s9 :: .own ds :: r) = (I (s0 :: s1 :: s2 :: s3 :: s4 :: s5 :: s6 :: s7 :: s8 :: s9 :: .own ds :: r)).andThen (ixTo 10) := rfl
theorem x_ixt10 {s0 s1 s2 s3 s4 s5 s6 s7 s8 s9 : Sl} {ds : List D} {d : D} {k : Nat} {r : En} (h : ds[k]? = some d) : ixTo 10 (.int (k : Nat)) (s0 :: s1 :: s2 :: s3 :: s4 :: s5 :: s6 :: s7 :: s8 :: s9 :: .own ds :: r) = .ok d (s0 :: s1 :: s2 :: s3 :: s4 :: s5 :: s6 :: s7 :: s8 :: s9 :: .own ds :: r) := by
  show (if 0 ≤ ((k : Nat) : Int) then (match ds[((k : Nat) : Int).toNat]? with
    | some d => Res.ok d (s0 :: s1 :: s2 :: s3 :: s4 :: s5 :: s6 :: s7 :: s8 :: s9 :: .own ds :: r)
    | none => .bad) else .bad) = _
  rw [if_pos (by omega), Int.toNat_natCast, h]
theorem x_ixo11 {s0 s1 s2 s3 s4 s5 s6 s7 s8 s9 s10 : Sl} {ds : List D} {r : En} (A I : M D) : ixN 11 A I (s0 :: s1 :: s2 :: s3 :: s4 :: s5 :: s6 :: s7 :: s8 :: s9 :: s10 :: .own ds :: r) = (I (s0 :: s1 :: s2 :: s3 :: s4 :: s5 :: s6 :: s7 :: s8 :: s9 :: s10 :: .own ds :: r)).andThen (ixTo 11) := rfl
theorem x_ixt11 {s0 s1 s2 s3 s4 s5 s6 s7 s8 s9 s10 : Sl} {ds : List D} {d : D} {k : Nat} {r : En} (h : ds[k]? = some d) : ixTo 11 (.int (k : Nat)) (s0 :: s1 :: s2 :: s3 :: s4 :: s5 :: s6 :: s7 :: s8 :: s9 :: s10 :: .own ds :: r) = .ok d (s0 :: s1 :: s2 :: s3 :: s4 :: s5 :: s6 :: s7 :: s8 :: s9 :: s10 :: .own ds :: r) := by
  show (if 0 ≤ ((k : Nat) : Int) then (match ds[((k : Nat) : Int).toNat]? with
    | some d => Res.ok d (s0 :: s1 :: s2 :: s3 :: s4 :: s5 :: s6 :: s7 :: s8 :: s9 :: s10 :: .own ds :: r)
    | none => .bad) else .bad) = _
  rw [if_pos (by omega), Int.toNat_natCast, h]
theorem x_ixo12 {s0 s1 s2 s3 s4 s5 s6 s7 s8 s9 s10 s11 : Sl} {ds : List D} {r : En} (A I : M D) : ixN 12 A I (s0 :: s1 :: s2 :: s3 :: s4 :: s5 :: s6 :: s7 :: s8 :: s9 :: s10 :: s11 :: .own ds :: r) = (I (s0 :: s1 :: s2 :: s3 :: s4 :: s5 :: s6 :: s7 :: s8 :: s9 :: s10 :: s11 :: .own ds :: r)).andThen (ixTo 12) := rfl
theorem x_ixt12 {s0 s1 s2 s3 s4 s5 s6 s7 s8 s9 s10 s11 : Sl} {ds : List D} {d : D} {k : Nat} {r : En} (h : ds[k]? = some d) : ixTo 12 (.int (k : Nat)) (s0 :: s1 :: s2 :: s3 :: s4 :: s5 :: s6 :: s7 :: s8 :: s9 :: s10 :: s11 :: .own ds :: r) = .ok d (s0 :: s1 :: s2 :: s3 :: s4 :: s5 :: s6 :: s7 :: s8 :: s9 :: s10 :: s11 :: .own ds :: r) := by
  show (if 0 ≤ ((k : Nat) : Int) then (match ds[((k : Nat) : Int).toNat]? with
    | some d => Res.ok d (s0 :: s1 :: s2 :: s3 :: s4 :: s5 :: s6 :: s7 :: s8 :: s9 :: s10 :: s11 :: .own ds :: r)
    | none => .bad) else .bad) = _
  rw [if_pos (by omega), Int.toNat_natCast, h]
theorem x_ixo13 {s0 s1 s2 s3 s4 s5 s6 s7 s8 s9 s10 s11 s12 : Sl} {ds : List D} {r : En} (A I : M D) : ixN 13 A I (s0 :: s1 :: s2 :: s3 :: s4 :: s5 :: s6 :: s7 :: s8 :: s9 :: s10 :: s11 :: s12 :: .own ds :: r) = (I (s0 :: s1 :: s2 :: s3 :: s4 :: s5 :: s6 :: s7 :: s8 :: s9 :: s10 :: s11 :: s12 :: .own ds :: r)).andThen (ixTo 13) := rfl
theorem x_ixt13 {s0 s1 s2 s3 s4 s5 s6 s7 s8 s9 s10 s11 s12 : Sl} {ds : List D} {d : D} {k : Nat} {r : En} (h : ds[k]? = some d) : ixTo 13 (.int (k : Nat)) (s0 :: s1 :: s2 :: s3 :: s4 :: s5 :: s6 :: s7 :: s8 :: s9 :: s10 :: s11 :: s12 :: .own ds :: r) = .ok d (s0 :: s1 :: s2 :: s3 :: s4 :: s5 :: s6 :: s7 :: s8 :: s9 :: s10 :: s11 :: s12 :: .own ds :: r) := by
  show (if 0 ≤ ((k : Nat) : Int) then (match ds[((k : Nat) : Int).toNat]? with
    | some d => Res.ok d (s0 :: s1 :: s2 :: s3 :: s4 :: s5 :: s6 :: s7 :: s8 :: s9 :: s10 :: s11 :: s12 :: .own ds :: r)
    | none => .bad) else .bad) = _
  rw [if_pos (by omega), Int.toNat_natCast, h]
theorem x_ixo14 {s0 s1 s2 s3 s4 s5 s6 s7 s8 s9 s10 s11 s12 s13 : Sl} {ds : List D} {r : En} (A I : M D) : ixN 14 A I (s0 :: s1 :: s2 :: s3 :: s4 :: s5 :: s6 :: s7 :: s8 :: s9 :: s10 :: s11 :: s12 :: s13 :: .own ds :: r) = (I (s0 :: s1 :: s2 :: s3 :: s4 :: s5 :: s6 :: s7 :: s8 :: s9 :: s10 :: s11 :: s12 :: s13 :: .own ds :: r)).andThen (ixTo 14) := rfl
theorem x_ixt14 {s0 s1 s2 s3 s4 s5 s6 s7 s8 s9 s10 s11 s12 s13 : Sl} {ds : List D} {d : D} {k : Nat} {r : En} (h : ds[k]? = some d) : ixTo 14 (.int (k : Nat)) (s0 :: s1 :: s2 :: s3 :: s4 :: s5 :: s6 :: s7 :: s8 :: s9 :: s10 :: s11 :: s12 :: s13 :: .own ds :: r) = .ok d (s0 :: s1 :: s2 :: s3 :: s4 :: s5 :: s6 :: s7 :: s8 :: s9 :: s10 :: s11 :: s12 :: s13 :: .own ds :: r) := by
  show (if 0 ≤ ((k : Nat) : Int) then (match ds[((k : Nat) : Int).toNat]? with
    | some d => Res.ok d (s0 :: s1 :: s2 :: s3 :: s4 :: s5 :: s6 :: s7 :: s8 :: s9 :: s10 :: s11 :: s12 :: s13 :: .own ds :: r)
    | none => .bad) else .bad) = _
  rw [if_pos (by omega), Int.toNat_natCast, h]
theorem x_ixo15 {s0 s1 s2 s3 s4 s5 s6 s7 s8 s9 s10 s11 s12 s13 s14 : Sl} {ds : List D} {r : En} (A I : M D) : ixN 15 A I (s0 :: s1 :: s2 :: s3 :: s4 :: s5 :: s6 :: s7 :: s8 :: s9 :: s10 :: s11 :: s12 :: s13 :: s14 :: .own ds :: r) = (I (s0 :: s1 :: s2 :: s3 :: s4 :: s5 :: s6 :: s7 :: s8 :: s9 :: s10 :: s11 :: s12 :: s13 :: s14 :: .own ds :: r)).andThen (ixTo 15) := rfl
theorem x_ixt15 {s0 s1 s2 s3 s4 s5 s6 s7 s8 s9 s10 s11 s12 s13 s14 : Sl} {ds : List D} {d : D} {k : Nat} {r : En} (h : ds[k]? = some d) : ixTo 15 (.int (k : Nat)) (s0 :: s1 :: s2 :: s3 :: s4 :: s5 :: s6 :: s7 :: s8 :: s9 :: s10 :: s11 :: s12 :: s13 :: s14 :: .own ds :: r) = .ok d (s0 :: s1 :: s2 :: s3 :: s4 :: s5 :: s6 :: s7 :: s8 :: s9 :: s10 :: s11 :: s12 :: s13 :: s14 :: .own ds :: r) := by
  show (if 0 ≤ ((k : Nat) : Int) then (match ds[((k : Nat) : Int).toNat]? with
    | some d => Res.ok d (s0 :: s1 :: s2 :: s3 :: s4 :: s5 :: s6 :: s7 :: s8 :: s9 :: s10 :: s11 :: s12 :: s13 :: s14 :: .own ds :: r)
    | none => .bad) else .bad) = _
  rw [if_pos (by omega), Int.toNat_natCast, h]
theorem x_ixo16 {s0 s1 s2 s3 s4 s5 s6 s7 s8 s9 s10 s11 s12 s13 s14 s15 : Sl} {ds : List D} {r : En} (A I : M D) : ixN 16 A I (s0 :: s1 :: s2 :: s3 :: s4 :: s5 :: s6 :: s7 :: s8 :: s9 :: s10 :: s11 :: s12 :: s13 :: s14 :: s15 :: .own ds :: r) = (I (s0 :: s1 :: s2 :: s3 :: s4 :: s5 :: s6 :: s7 :: s8 :: s9 :: s10 :: s11 :: s12 :: s13 :: s14 :: s15 :: .own ds :: r)).andThen (ixTo 16) := rfl
theorem x_ixt16 {s0 s1 s2 s3 s4 s5 s6 s7 s8 s9 s10 s11 s12 s13 s14 s15 : Sl} {ds : List D} {d : D} {k : Nat} {r : En} (h : ds[k]? = some d) : ixTo 16 (.int (k : Nat)) (s0 :: s1 :: s2 :: s3 :: s4 :: s5 :: s6 :: s7 :: s8 :: s9 :: s10 :: s11 :: s12 :: s13 :: s14 :: s15 :: .own ds :: r) = .ok d (s0 :: s1 :: s2 :: s3 :: s4 :: s5 :: s6 :: s7 :: s8 :: s9 :: s10 :: s11 :: s12 :: s13 :: s14 :: s15 :: .own ds :: r) := by
  show (if 0 ≤ ((k : Nat) : Int) then (match ds[((k : Nat) : Int).toNat]? with
    | some d => Res.ok d (s0 :: s1 :: s2 :: s3 :: s4 :: s5 :: s6 :: s7 :: s8 :: s9 :: s10 :: s11 :: s12 :: s13 :: s14 :: s15 :: .own ds :: r)
    | none => .bad) else .bad) = _
  rw [if_pos (by omega), Int.toNat_natCast, h]
theorem x_ixo17 {s0 s1 s2 s3 s4 s5 s6 s7 s8 s9 s10 s11 s12 s13 s14 s15 s16 : Sl} {ds : List D} {r : En} (A I : M D) : ixN 17 A I (s0 :: s1 :: s2 :: s3 :: s4 :: s5 :: s6 :: s7 :: s8 :: s9 :: s10 :: s11 :: s12 :: s13 :: s14 :: s15 :: s16 :: .own ds :: r) = (I (s0 :: s1 :: s2 :: s3 :: s4 :: s5 :: s6 :: s7 :: s8 :: s9 :: s10 :: s11 :: s12 :: s13 :: s14 :: s15 :: s16 :: .own ds :: r)).andThen (ixTo 17) := rfl
theorem x_ixt17 {s0 s1 s2 s3 s4 s5 s6 s7 s8 s9 s10 s11 s12 s13 s14 s15 s16 : Sl} {ds : List D} {d : D} {k : Nat} {r : En} (h : ds[k]? = some d) : ixTo 17 (.int (k : Nat)) (s0 :: s1 :: s2 :: s3 :: s4 :: s5 :: s6 :: s7 :: s8 :: s9 :: s10 :: s11 :: s12 :: s13 :: s14 :: s15 :: s16 :: .own ds :: r) = .ok d (s0 :: s1 :: s2 :: s3 :: s4 :: s5 :: s6 :: s7 :: s8 :: s9 :: s10 :: s11 :: s12 :: s13 :: s14 :: s15 :: s16 :: .own ds :: r) := by
  show (if 0 ≤ ((k : Nat) : Int) then (match ds[((k : Nat) : Int).toNat]? with
    | some d => Res.ok d (s0 :: s1 :: s2 :: s3 :: s4 :: s5 :: s6 :: s7 :: s8 :: s9 :: s10 :: s11 :: s12 :: s13 :: s14 :: s15 :: s16 :: .own ds :: r)
    | none => .bad) else .bad) = _
  rw [if_pos (by omega), Int.toNat_natCast, h]
theorem x_ixo18 {s0 s1 s2 s3 s4 s5 s6 s7 s8 s9 s10 s11 s12 s13 s14 s15 s16 s17 : Sl} {ds : List D} {r : En} (A I : M D) : ixN 18 A I (s0 :: s1 :: s2 :: s3 :: s4 :: s5 :: s6 :: s7 :: s8 :: s9 :: s10 :: s11 :: s12 :: s13 :: s14 :: s15 :: s16 :: s17 :: .own ds :: r) = (I (s0 :: s1 :: s2 :: s3 :: s4 :: s5 :: s6 :: s7 :: s8 :: s9 :: s10 :: s11 :: s12 :: s13 :: s14 :: s15 :: s16 :: s17 :: .own ds :: r)).andThen (ixTo 18) := rfl
theorem x_ixt18 {s0 s1 s2 s3 s4 s5 s6 s7 s8 s9 s10 s11 s12 s13 s14 s15 s16 s17 : Sl} {ds : List D} {d : D} {k : Nat} {r : En} (h : ds[k]? = some d) : ixTo 18 (.int (k : Nat)) (s0 :: s1 :: s2 :: s3 :: s4 :: s5 :: s6 :: s7 :: s8 :: s9 :: s10 :: s11 :: s12 :: s13 :: s14 :: s15 :: s16 :: s17 :: .own ds :: r) = .ok d (s0 :: s1 :: s2 :: s3 :: s4 :: s5 :: s6 :: s7 :: s8 :: s9 :: s10 :: s11 :: s12 :: s13 :: s14 :: s15 :: s16 :: s17 :: .own ds :: r) := by
  show (if 0 ≤ ((k : Nat) : Int) then (match ds[((k : Nat) : Int).toNat]? with
    | some d => Res.ok d (s0 :: s1 :: s2 :: s3 :: s4 :: s5 :: s6 :: s7 :: s8 :: s9 :: s10 :: s11 :: s12 :: s13 :: s14 :: s15 :: s16 :: s17 :: .own ds :: r)
    | none => .bad) else .bad) = _
  rw [if_pos (by omega), Int.toNat_natCast, h]
theorem x_ixo19 {s0 s1 s2 s3 s4 s5 s6 s7 s8 s9 s10 s11 s12 s13 s14 s15 s16 s17 s18 : Sl} {ds : List D} {r : En} (A I : M D) : ixN 19 A I (s0 :: s1 :: s2 :: s3 :: s4 :: s5 :: s6 :: s7 :: s8 :: s9 :: s10 :: s11 :: s12 :: s13 :: s14 :: s15 :: s16 :: s17 :: s18 :: .own ds :: r) = (I (s0 :: s1 :: s2 :: s3 :: s4 :: s5 :: s6 :: s7 :: s8 :: s9 :: s10 :: s11 :: s12 :: s13 :: s14 :: s15 :: s16 :: s17 :: s18 :: .own ds :: r)).andThen (ixTo 19) := rfl
theorem x_ixt19 {s0 s1 s2 s3 s4 s5 s6 s7 s8 s9 s10 s11 s12 s13 s14 s15 s16 s17 s18 : Sl} {ds : List D} {d : D} {k : Nat} {r : En} (h : ds[k]? = some d) : ixTo 19 (.int (k : Nat)) (s0 :: s1 :: s2 :: s3 :: s4 :: s5 :: s6 :: s7 :: s8 :: s9 :: s10 :: s11 :: s12 :: s13 :: s14 :: s15 :: s16 :: s17 :: s18 :: .own ds :: r) = .ok d (s0 :: s1 :: s2 :: s3 :: s4 :: s5 :: s6 :: s7 :: s8 :: s9 :: s10 :: s11 :: s12 :: s13 :: s14 :: s15 :: s16 :: s17 :: s18 :: .own ds :: r) := by
  show (if 0 ≤ ((k : Nat) : Int) then (match ds[((k : Nat) : Int).toNat]? with
    | some d => Res.ok d (s0 :: s1 :: s2 :: s3 :: s4 :: s5 :: s6 :: s7 :: s8 :: s9 :: s10 :: s11 :: s12 :: s13 :: s14 :: s15 :: s16 :: s17 :: s18 :: .own ds :: r)
    | none => .bad) else .bad) = _
  rw [if_pos (by omega), Int.toNat_natCast, h]
theorem x_ixo20 {s0 s1 s2 s3 s4 s5 s6 s7 s8 s9 s10 s11 s12 s13 s14 s15 s16 s17 s18 s19 : Sl} {ds : List D} {r : En} (A I : M D) : ixN 20 A I (s0 :: s1 :: s2 :: s3 :: s4 :: s5 :: s6 :: s7 :: s8 :: s9 :: s10 :: s11 :: s12 :: s13 :: s14 :: s15 :: s16 :: s17 :: s18 :: s19 :: .own ds :: r) = (I (s0 :: s1 :: s2 :: s3 :: s4 :: s5 :: s6 :: s7 :: s8 :: s9 :: s10 :: s11 :: s12 :: s13 :: s14 :: s15 :: s16 :: s17 :: s18 :: s19 :: .own ds :: r)).andThen (ixTo 20) := rfl
theorem x_ixt20 {s0 s1 s2 s3 s4 s5 s6 s7 s8 s9 s10 s11 s12 s13 s14 s15 s16 s17 s18 s19 : Sl} {ds : List D} {d : D} {k : Nat} {r : En} (h : ds[k]? = some d) : ixTo 20 (.int (k : Nat)) (s0 :: s1 :: s2 :: s3 :: s4 :: s5 :: s6 :: s7 :: s8 :: s9 :: s10 :: s11 :: s12 :: s13 :: s14 :: s15 :: s16 :: s17 :: s18 :: s19 :: .own ds :: r) = .ok d (s0 :: s1 :: s2 :: s3 :: s4 :: s5 :: s6 :: s7 :: s8 :: s9 :: s10 :: s11 :: s12 :: s13 :: s14 :: s15 :: s16 :: s17 :: s18 :: s19 :: .own ds :: r) := by
  show (if 0 ≤ ((k : Nat) : Int) then (match ds[((k : Nat) : Int).toNat]? with
    | some d => Res.ok d (s0 :: s1 :: s2 :: s3 :: s4 :: s5 :: s6 :: s7 :: s8 :: s9 :: s10 :: s11 :: s12 :: s13 :: s14 :: s15 :: s16 :: s17 :: s18 :: s19 :: .own ds :: r)
    | none => .bad) else .bad) = _
  rw [if_pos (by omega), Int.toNat_natCast, h]
theorem x_ixo21 {s0 s1 s2 s3 s4 s5 s6 s7 s8 s9 s10 s11 s12 s13 s14 s15 s16 s17 s18 s19 s20 : Sl} {ds : List D} {r : En} (A I : M D) : ixN 21 A I (s0 :: s1 :: s2 :: s3 :: s4 :: s5 :: s6 :: s7 :: s8 :: s9 :: s10 :: s11 :: s12 :: s13 :: s14 :: s15 :: s16 :: s17 :: s18 :: s19 :: s20 :: .own ds :: r) = (I (s0 :: s1 :: s2 :: s3 :: s4 :: s5 :: s6 :: s7 :: s8 :: s9 :: s10 :: s11 :: s12 :: s13 :: s14 :: s15 :: s16 :: s17 :: s18 :: s19 :: s20 :: .own ds :: r)).andThen (ixTo 21) := rfl
theorem x_ixt21 {s0 s1 s2 s3 s4 s5 s6 s7 s8 s9 s10 s11 s12 s13 s14 s15 s16 s17 s18 s19 s20 : Sl} {ds : List D} {d : D} {k : Nat} {r : En} (h : ds[k]? = some d) : ixTo 21 (.int (k : Nat)) (s0 :: s1 :: s2 :: s3 :: s4 :: s5 :: s6 :: s7 :: s8 :: s9 :: s10 :: s11 :: s12 :: s13 :: s14 :: s15 :: s16 :: s17 :: s18 :: s19 :: s20 :: .own ds :: r) = .ok d (s0 :: s1 :: s2 :: s3 :: s4 :: s5 :: s6 :: s7 :: s8 :: s9 :: s10 :: s11 :: s12 :: s13 :: s14 :: s15 :: s16 :: s17 :: s18 :: s19 :: s20 :: .own ds :: r) := by
  show (if 0 ≤ ((k : Nat) : Int) then (match ds[((k : Nat) : Int).toNat]? with
    | some d => Res.ok d (s0 :: s1 :: s2 :: s3 :: s4 :: s5 :: s6 :: s7 :: s8 :: s9 :: s10 :: s11 :: s12 :: s13 :: s14 :: s15 :: s16 :: s17 :: s18 :: s19 :: s20 :: .own ds :: r)
    | none => .bad) else .bad) = _
  rw [if_pos (by omega), Int.toNat_natCast, h]
theorem x_ixo22 {s0 s1 s2 s3 s4 s5 s6 s7 s8 s9 s10 s11 s12 s13 s14 s15 s16 s17 s18 s19 s20 s21 : Sl} {ds : List D} {r : En} (A I : M D) : ixN 22 A I (s0 :: s1 :: s2 :: s3 :: s4 :: s5 :: s6 :: s7 :: s8 :: s9 :: s10 :: s11 :: s12 :: s13 :: s14 :: s15 :: s16 :: s17 :: s18 :: s19 :: s20 :: s21 :: .own ds :: r) = (I (s0 :: s1 :: s2 :: s3 :: s4 :: s5 :: s6 :: s7 :: s8 :: s9 :: s10 :: s11 :: s12 :: s13 :: s14 :: s15 :: s16 :: s17 :: s18 :: s19 :: s20 :: s21 :: .own ds :: r)).andThen (ixTo 22) := rfl
theorem x_ixt22 {s0 s1 s2 s3 s4 s5 s6 s7 s8 s9 s10 s11 s12 s13 s14 s15 s16 s17 s18 s19 s20 s21 : Sl} {ds : List D} {d : D} {k : Nat} {r : En} (h : ds[k]? = some d) : ixTo 22 (.int (k : Nat)) (s0 :: s1 :: s2 :: s3 :: s4 :: s5 :: s6 :: s7 :: s8 :: s9 :: s10 :: s11 :: s12 :: s13 :: s14 :: s15 :: s16 :: s17 :: s18 :: s19 :: s20 :: s21 :: .own ds :: r) = .ok d (s0 :: s1 :: s2 :: s3 :: s4 :: s5 :: s6 :: s7 :: s8 :: s9 :: s10 :: s11 :: s12 :: s13 :: s14 :: s15 :: s16 :: s17 :: s18 :: s19 :: s20 :: s21 :: .own ds :: r) := by
  show (if 0 ≤ ((k : Nat) : Int) then (match ds[((k : Nat) : Int).toNat]? with
    | some d => Res.ok d (s0 :: s1 :: s2 :: s3 :: s4 :: s5 :: s6 :: s7 :: s8 :: s9 :: s10 :: s11 :: s12 :: s13 :: s14 :: s15 :: s16 :: s17 :: s18 :: s19 :: s20 :: s21 :: .own ds :: r)
    | none => .bad) else .bad) = _
  rw [if_pos (by omega), Int.toNat_natCast, h]
theorem x_ixo23 {s0 s1 s2 s3 s4 s5 s6 s7 s8 s9 s10 s11 s12 s13 s14 s15 s16 s17 s18 s19 s20 s21 s22 : Sl} {ds : List D} {r : En} (A I : M D) : ixN 23 A I (s0 :: s1 :: s2 :: s3 :: s4 :: s5 :: s6 :: s7 :: s8 :: s9 :: s10 :: s11 :: s12 :: s13 :: s14 :: s15 :: s16 :: s17 :: s18 :: s19 :: s20 :: s21 :: s22 :: .own ds :: r) = (I (s0 :: s1 :: s2 :: s3 :: s4 :: s5 :: s6 :: s7 :: s8 :: s9 :: s10 :: s11 :: s12 :: s13 :: s14 :: s15 :: s16 :: s17 :: s18 :: s19 :: s20 :: s21 :: s22 :: .own ds :: r)).andThen (ixTo 23) := rfl
theorem x_ixt23 {s0 s1 s2 s3 s4 s5 s6 s7 s8 s9 s10 s11 s12 s13 s14 s15 s16 s17 s18 s19 s20 s21 s22 : Sl} {ds : List D} {d : D} {k : Nat} {r : En} (h : ds[k]? = some d) : ixTo 23 (.int (k : Nat)) (s0 :: s1 :: s2 :: s3 :: s4 :: s5 :: s6 :: s7 :: s8 :: s9 :: s10 :: s11 :: s12 :: s13 :: s14 :: s15 :: s16 :: s17 :: s18 :: s19 :: s20 :: s21 :: s22 :: .own ds :: r) = .ok d (s0 :: s1 :: s2 :: s3 :: s4 :: s5 :: s6 :: s7 :: s8 :: s9 :: s10 :: s11 :: s12 :: s13 :: s14 :: s15 :: s16 :: s17 :: s18 :: s19 :: s20 :: s21 :: s22 :: .own ds :: r) := by
  show (if 0 ≤ ((k : Nat) : Int) then (match ds[((k : Nat) : Int).toNat]? with
    | some d => Res.ok d (s0 :: s1 :: s2 :: s3 :: s4 :: s5 :: s6 :: s7 :: s8 :: s9 :: s10 :: s11 :: s12 :: s13 :: s14 :: s15 :: s16 :: s17 :: s18 :: s19 :: s20 :: s21 :: s22 :: .own ds :: r)
    | none => .bad) else .bad) = _
  rw [if_pos (by omega), Int.toNat_natCast, h]
theorem x_ixo24 {s0 s1 s2 s3 s4 s5 s6 s7 s8 s9 s10 s11 s12 s13 s14 s15 s16 s17 s18 s19 s20 s21 s22 s23 : Sl} {ds : List D} {r : En} (A I : M D) : ixN 24 A I (s0 :: s1 :: s2 :: s3 :: s4 :: s5 :: s6 :: s7 :: s8 :: s9 :: s10 :: s11 :: s12 :: s13 :: s14 :: s15 :: s16 :: s17 :: s18 :: s19 :: s20 :: s21 :: s22 :: s23 :: .own ds :: r) = (I (s0 :: s1 :: s2 :: s3 :: s4 :: s5 :: s6 :: s7 :: s8 :: s9 :: s10 :: s11 :: s12 :: s13 :: s14 :: s15 :: s16 :: s17 :: s18 :: s19 :: s20 :: s21 :: s22 :: s23 :: .own ds :: r)).andThen (ixTo 24) := rfl
theorem x_ixt24 {s0 s1 s2 s3 s4 s5 s6 s7 s8 s9 s10 s11 s12 s13 s14 s15 s16 s17 s18 s19 s20 s21 s22 s23 : Sl} {ds : List D} {d : D} {k : Nat} {r : En} (h : ds[k]? = some d) : ixTo 24 (.int (k : Nat)) (s0 :: s1 :: s2 :: s3 :: s4 :: s5 :: s6 :: s7 :: s8 :: s9 :: s10 :: s11 :: s12 :: s13 :: s14 :: s15 :: s16 :: s17 :: s18 :: s19 :: s20 :: s21 :: s22 :: s23 :: .own ds :: r) = .ok d (s0 :: s1 :: s2 :: s3 :: s4 :: s5 :: s6 :: s7 :: s8 :: s9 :: s10 :: s11 :: s12 :: s13 :: s14 :: s15 :: s16 :: s17 :: s18 :: s19 :: s20 :: s21 :: s22 :: s23 :: .own ds :: r) := by
  show (if 0 ≤ ((k : Nat) : Int) then (match ds[((k : Nat) : Int).toNat]? with
    | some d => Res.ok d (s0 :: s1 :: s2 :: s3 :: s4 :: s5 :: s6 :: s7 :: s8 :: s9 :: s10 :: s11 :: s12 :: s13 :: s14 :: s15 :: s16 :: s17 :: s18 :: s19 :: s20 :: s21 :: s22 :: s23 :: .own ds :: r)
    | none => .bad) else .bad) = _
  rw [if_pos (by omega), Int.toNat_natCast, h]
theorem x_ixo25 {s0 s1 s2 s3 s4 s5 s6 s7 s8 s9 s10 s11 s12 s13 s14 s15 s16 s17 s18 s19 s20 s21 s22 s23 s24 : Sl} {ds : List D} {r : En} (A I : M D) : ixN 25 A I (s0 :: s1 :: s2 :: s3 :: s4 :: s5 :: s6 :: s7 :: s8 :: s9 :: s10 :: s11 :: s12 :: s13 :: s14 :: s15 :: s16 :: s17 :: s18 :: s19 :: s20 :: s21 :: s22 :: s23 :: s24 :: .own ds :: r) = (I (s0 :: s1 :: s2 :: s3 :: s4 :: s5 :: s6 :: s7 :: s8 :: s9 :: s10 :: s11 :: s12 :: s13 :: s14 :: s15 :: s16 :: s17 :: s18 :: s19 :: s20 :: s21 :: s22 :: s23 :: s24 :: .own ds :: r)).andThen (ixTo 25) := rfl
theorem x_ixt25 {s0 s1 s2 s3 s4 s5 s6 s7 s8 s9 s10 s11 s12 s13 s14 s15 s16 s17 s18 s19 s20 s21 s22 s23 s24 : Sl} {ds : List D} {d : D} {k : Nat} {r : En} (h : ds[k]? = some d) : ixTo 25 (.int (k : Nat)) (s0 :: s1 :: s2 :: s3 :: s4 :: s5 :: s6 :: s7 :: s8 :: s9 :: s10 :: s11 :: s12 :: s13 :: s14 :: s15 :: s16 :: s17 :: s18 :: s19 :: s20 :: s21 :: s22 :: s23 :: s24 :: .own ds :: r) = .ok d (s0 :: s1 :: s2 :: s3 :: s4 :: s5 :: s6 :: s7 :: s8 :: s9 :: s10 :: s11 :: s12 :: s13 :: s14 :: s15 :: s16 :: s17 :: s18 :: s19 :: s20 :: s21 :: s22 :: s23 :: s24 :: .own ds :: r) := by
  show (if 0 ≤ ((k : Nat) : Int) then (match ds[((k : Nat) : Int).toNat]? with
    | some d => Res.ok d (s0 :: s1 :: s2 :: s3 :: s4 :: s5 :: s6 :: s7 :: s8 :: s9 :: s10 :: s11 :: s12 :: s13 :: s14 :: s15 :: s16 :: s17 :: s18 :: s19 :: s20 :: s21 :: s22 :: s23 :: s24 :: .own ds :: r)
    | none => .bad) else .bad) = _
  rw [if_pos (by omega), Int.toNat_natCast, h]
theorem seq_then {α : Type} (l : List (M D)) (f : List D → M α) (e : En) : bnd (seqM l) f e = (seqM l e).andThen f := rfl
theorem x_tup4 (A1 A2 A3 A4 : M D) (e : En) : tupM [A1, A2, A3, A4] e = (seqM [A1, A2, A3, A4] e).andThen fun ds => if ds.length ≤ lim then ret (.tuple ds) else bad := rfl
theorem x_tup5 (A1 A2 A3 A4 A5 : M D) (e : En) : tupM [A1, A2, A3, A4, A5] e = (seqM [A1, A2, A3, A4, A5] e).andThen fun ds => if ds.length ≤ lim then ret (.tuple ds) else bad := rfl
theorem x_tup6 (A1 A2 A3 A4 A5 A6 : M D) (e : En) : tupM [A1, A2, A3, A4, A5, A6] e = (seqM [A1, A2, A3, A4, A5, A6] e).andThen fun ds => if ds.length ≤ lim then ret (.tuple ds) else bad := rfl
theorem x_lst2 (A1 A2 : M D) (e : En) : lstM [A1, A2] e = (seqM [A1, A2] e).andThen fun ds => if ds.length ≤ lim then ret (.list ds) else bad := rfl
theorem x_lst3 (A1 A2 A3 : M D) (e : En) : lstM [A1, A2, A3] e = (seqM [A1, A2, A3] e).andThen fun ds => if ds.length ≤ lim then ret (.list ds) else bad := rfl
theorem x_lst4 (A1 A2 A3 A4 : M D) (e : En) : lstM [A1, A2, A3, A4] e = (seqM [A1, A2, A3, A4] e).andThen fun ds => if ds.length ≤ lim then ret (.list ds) else bad := rfl
theorem x_lst5 (A1 A2 A3 A4 A5 : M D) (e : En) : lstM [A1, A2, A3, A4, A5] e = (seqM [A1, A2, A3, A4, A5] e).andThen fun ds => if ds.length ≤ lim then ret (.list ds) else bad := rfl
theorem x_lst6 (A1 A2 A3 A4 A5 A6 : M D) (e : En) : lstM [A1, A2, A3, A4, A5, A6] e = (seqM [A1, A2, A3, A4, A5, A6] e).andThen fun ds => if ds.length ≤ lim then ret (.list ds) else bad := rfl
theorem x_lst7 (A1 A2 A3 A4 A5 A6 A7 : M D) (e : En) : lstM [A1, A2, A3, A4, A5, A6, A7] e = (seqM [A1, A2, A3, A4, A5, A6, A7] e).andThen fun ds => if ds.length ≤ lim then ret (.list ds) else bad := rfl
theorem x_lst8 (A1 A2 A3 A4 A5 A6 A7 A8 : M D) (e : En) : lstM [A1, A2, A3, A4, A5, A6, A7, A8] e = (seqM [A1, A2, A3, A4, A5, A6, A7, A8] e).andThen fun ds => if ds.length ≤ lim then ret (.list ds) else bad := rfl
theorem x_lst9 (A1 A2 A3 A4 A5 A6 A7 A8 A9 : M D) (e : En) : lstM [A1, A2, A3, A4, A5, A6, A7, A8, A9] e = (seqM [A1, A2, A3, A4, A5, A6, A7, A8, A9] e).andThen fun ds => if ds.length ≤ lim then ret (.list ds) else bad := rfl
theorem x_lst10 (A1 A2 A3 A4 A5 A6 A7 A8 A9 A10 : M D) (e : En) : lstM [A1, A2, A3, A4, A5, A6, A7, A8, A9, A10] e = (seqM [A1, A2, A3, A4, A5, A6, A7, A8, A9, A10] e).andThen fun ds => if ds.length ≤ lim then ret (.list ds) else bad := rfl
theorem x_lst11 (A1 A2 A3 A4 A5 A6 A7 A8 A9 A10 A11 : M D) (e : En) : lstM [A1, A2, A3, A4, A5, A6, A7, A8, A9, A10, A11] e = (seqM [A1, A2, A3, A4, A5, A6, A7, A8, A9, A10, A11] e).andThen fun ds => if ds.length ≤ lim then ret (.list ds) else bad := rfl
theorem x_lst12 (A1 A2 A3 A4 A5 A6 A7 A8 A9 A10 A11 A12 : M D) (e : En) : lstM [A1, A2, A3, A4, A5, A6, A7, A8, A9, A10, A11, A12] e = (seqM [A1, A2, A3, A4, A5, A6, A7, A8, A9, A10, A11, A12] e).andThen fun ds => if ds.length ≤ lim then ret (.list ds) else bad := rfl
theorem x_lst13 (A1 A2 A3 A4 A5 A6 A7 A8 A9 A10 A11 A12 A13 : M D) (e : En) : lstM [A1, A2, A3, A4, A5, A6, A7, A8, A9, A10, A11, A12, A13] e = (seqM [A1, A2, A3, A4, A5, A6, A7, A8, A9, A10, A11, A12, A13] e).andThen fun ds => if ds.length ≤ lim then ret (.list ds) else bad := rfl
theorem x_lst14 (A1 A2 A3 A4 A5 A6 A7 A8 A9 A10 A11 A12 A13 A14 : M D) (e : En) : lstM [A1, A2, A3, A4, A5, A6, A7, A8, A9, A10, A11, A12, A13, A14] e = (seqM [A1, A2, A3, A4, A5, A6, A7, A8, A9, A10, A11, A12, A13, A14] e).andThen fun ds => if ds.length ≤ lim then ret (.list ds) else bad := rfl
theorem x_own2 (A1 A2 : M D) (e : En) : ownR [A1, A2] e = (seqM [A1, A2] e).andThen fun ds => if ds.length ≤ lim then ret (.own ds) else bad := rfl
theorem x_own3 (A1 A2 A3 : M D) (e : En) : ownR [A1, A2, A3] e = (seqM [A1, A2, A3] e).andThen fun ds => if ds.length ≤ lim then ret (.own ds) else bad := rfl
theorem x_lim2 : (0 + 1 + 1 ≤ lim) = True := by simp [lim]
theorem x_lim3 : (0 + 1 + 1 + 1 ≤ lim) = True := by simp [lim]
theorem x_lim4 : (0 + 1 + 1 + 1 + 1 ≤ lim) = True := by simp [lim]
theorem x_lim5 : (0 + 1 + 1 + 1 + 1 + 1 ≤ lim) = True := by simp [lim]
theorem x_lim6 : (0 + 1 + 1 + 1 + 1 + 1 + 1 ≤ lim) = True := by simp [lim]
theorem x_lim7 : (0 + 1 + 1 + 1 + 1 + 1 + 1 + 1 ≤ lim) = True := by simp [lim]
theorem x_lim8 : (0 + 1 + 1 + 1 + 1 + 1 + 1 + 1 + 1 ≤ lim) = True := by simp [lim]
theorem x_lim9 : (0 + 1 + 1 + 1 + 1 + 1 + 1 + 1 + 1 + 1 ≤ lim) = True := by simp [lim]
theorem x_lim10 : (0 + 1 + 1 + 1 + 1 + 1 + 1 + 1 + 1 + 1 + 1 ≤ lim) = True := by simp [lim]
theorem x_lim11 : (0 + 1 + 1 + 1 + 1 + 1 + 1 + 1 + 1 + 1 + 1 + 1 ≤ lim) = True := by simp [lim]
theorem x_lim12 : (0 + 1 + 1 + 1 + 1 + 1 + 1 + 1 + 1 + 1 + 1 + 1 + 1 ≤ lim) = True := by simp [lim]
theorem x_lim13 : (0 + 1 + 1 + 1 + 1 + 1 + 1 + 1 + 1 + 1 + 1 + 1 + 1 + 1 ≤ lim) = True := by simp [lim]
theorem x_lim14 : (0 + 1 + 1 + 1 + 1 + 1 + 1 + 1 + 1 + 1 + 1 + 1 + 1 + 1 + 1 ≤ lim) = True := by simp [lim]
theorem x_ltl0 : (0 < lim) = True := by simp [lim]
theorem x_ltl1 : (0 + 1 < lim) = True := by simp [lim]
theorem x_ltl2 : (0 + 1 + 1 < lim) = True := by simp [lim]
theorem x_ltl3 : (0 + 1 + 1 + 1 < lim) = True := by simp [lim]
theorem x_ltl4 : (0 + 1 + 1 + 1 + 1 < lim) = True := by simp [lim]
theorem x_ltl5 : (0 + 1 + 1 + 1 + 1 + 1 < lim) = True := by simp [lim]
theorem x_ltl6 : (0 + 1 + 1 + 1 + 1 + 1 + 1 < lim) = True := by simp [lim]
theorem x_ltl7 : (0 + 1 + 1 + 1 + 1 + 1 + 1 + 1 < lim) = True := by simp [lim]
theorem x_ltl8 : (0 + 1 + 1 + 1 + 1 + 1 + 1 + 1 + 1 < lim) = True := by simp [lim]
theorem x_ltl9 : (0 + 1 + 1 + 1 + 1 + 1 + 1 + 1 + 1 + 1 < lim) = True := by simp [lim]
theorem x_ltl10 : (0 + 1 + 1 + 1 + 1 + 1 + 1 + 1 + 1 + 1 + 1 < lim) = True := by simp [lim]
theorem x_ltl11 : (0 + 1 + 1 + 1 + 1 + 1 + 1 + 1 + 1 + 1 + 1 + 1 < lim) = True := by simp [lim]
theorem x_ltl12 : (0 + 1 + 1 + 1 + 1 + 1 + 1 + 1 + 1 + 1 + 1 + 1 + 1 < lim) = True := by simp [lim]
theorem x_ltl13 : (0 + 1 + 1 + 1 + 1 + 1 + 1 + 1 + 1 + 1 + 1 + 1 + 1 + 1 < lim) = True := by simp [lim]
theorem x_ltl14 : (0 + 1 + 1 + 1 + 1 + 1 + 1 + 1 + 1 + 1 + 1 + 1 + 1 + 1 + 1 < lim) = True := by simp [lim]
theorem x_call4 (call : Str → En → Res D) (g : Str) (A1 A2 A3 A4 : M D) (e : En) : callV call g 4 [A1, A2, A3, A4] e = (seqM [A1, A2, A3, A4] e).andThen fun ds e1 => if ds.length = 4 then (call g (ds.map .val)).keep e1 else .bad := by
  unfold callV bnd Res.andThen
  cases seqM [A1, A2, A3, A4] e with
  | ok ds e1 =>
    dsimp only
    split
    · cases call g (ds.map .val) <;> rfl
    · rfl
  | exc c e1 => rfl
  | bad => rfl
theorem x_cl4 : (0 + 1 + 1 + 1 + 1 = 4) = True := by simp
theorem x_call5 (call : Str → En → Res D) (g : Str) (A1 A2 A3 A4 A5 : M D) (e : En) : callV call g 5 [A1, A2, A3, A4, A5] e = (seqM [A1, A2, A3, A4, A5] e).andThen fun ds e1 => if ds.length = 5 then (call g (ds.map .val)).keep e1 else .bad := by
  unfold callV bnd Res.andThen
  cases seqM [A1, A2, A3, A4, A5] e with
  | ok ds e1 =>
    dsimp only
    split
    · cases call g (ds.map .val) <;> rfl
    · rfl
  | exc c e1 => rfl
  | bad => rfl
theorem x_cl5 : (0 + 1 + 1 + 1 + 1 + 1 = 5) = True := by simp
theorem x_callP3 (call : Str → En → Res D) (g : Str) (j : Nat) (A B : M D) (e : En) {cs : List D} (h : lent j e = some cs) : callP call g 3 j [A, B] e = (A e).andThen fun a e1 => (B e1).andThen fun b e2 => match lent j e2 with
  | some cs => (call g [.par cs, .val a, .val b]).lentTo j e2
  | none => .bad := by
  unfold callP lentN
  rw [h]
  show bnd (bnd A fun d => bnd (bnd B fun d => bnd (seqM []) fun ds => ret (d :: ds)) fun ds => ret (d :: ds)) _ e = _
  unfold bnd Res.andThen
  cases A e with
  | ok a e1 =>
    dsimp only
    cases B e1 with
    | ok b e2 =>
      show (if [a, b].length + 1 = 3 then (match lent j e2 with
        | some cs => (match call g (.par cs :: [a, b].map .val) with
          | .ok d (.par cs' :: _) => Res.ok d (putL j cs' e2)
          | .exc c (.par cs' :: _) => .exc c (putL j cs' e2)
          | _ => .bad)
        | none => .bad) else .bad) = _
      rw [if_pos (show [a, b].length + 1 = 3 from rfl)]
      dsimp only
      cases lent j e2 with
      | none => rfl
      | some cs => rfl
    | exc c e2 => rfl
    | bad => rfl
  | exc c e1 => rfl
  | bad => rfl
theorem x_cpp0 {cs : List D} {r : En} (call : Str → En → Res D) (g : Str) (A B : M D) : callP call g 3 0 [A, B] (.own cs :: r) = (A (.own cs :: r)).andThen fun a e1 => (B e1).andThen fun b e2 => match lent 0 e2 with
  | some cs => (call g [.par cs, .val a, .val b]).lentTo 0 e2
  | none => .bad := x_callP3 call g 0 A B _ rfl
theorem x_cqq0 {cs : List D} {r : En} (call : Str → En → Res D) (g : Str) (A B : M D) : callP call g 3 0 [A, B] (.par cs :: r) = (A (.par cs :: r)).andThen fun a e1 => (B e1).andThen fun b e2 => match lent 0 e2 with
  | some cs => (call g [.par cs, .val a, .val b]).lentTo 0 e2
  | none => .bad := x_callP3 call g 0 A B _ rfl
theorem x_cpp1 {s0 : Sl} {cs : List D} {r : En} (call : Str → En → Res D) (g : Str) (A B : M D) : callP call g 3 1 [A, B] (s0 :: .own cs :: r) = (A (s0 :: .own cs :: r)).andThen fun a e1 => (B e1).andThen fun b e2 => match lent 1 e2 with
  | some cs => (call g [.par cs, .val a, .val b]).lentTo 1 e2
  | none => .bad := x_callP3 call g 1 A B _ rfl
theorem x_cqq1 {s0 : Sl} {cs : List D} {r : En} (call : Str → En → Res D) (g : Str) (A B : M D) : callP call g 3 1 [A, B] (s0 :: .par cs :: r) = (A (s0 :: .par cs :: r)).andThen fun a e1 => (B e1).andThen fun b e2 => match lent 1 e2 with
  | some cs => (call g [.par cs, .val a, .val b]).lentTo 1 e2
  | none => .bad := x_callP3 call g 1 A B _ rfl
theorem x_cpp2 {s0 s1 : Sl} {cs : List D} {r : En} (call : Str → En → Res D) (g : Str) (A B : M D) : callP call g 3 2 [A, B] (s0 :: s1 :: .own cs :: r) = (A (s0 :: s1 :: .own cs :: r)).andThen fun a e1 => (B e1).andThen fun b e2 => match lent 2 e2 with
  | some cs => (call g [.par cs, .val a, .val b]).lentTo 2 e2
  | none => .bad := x_callP3 call g 2 A B _ rfl
theorem x_cqq2 {s0 s1 : Sl} {cs : List D} {r : En} (call : Str → En → Res D) (g : Str) (A B : M D) : callP call g 3 2 [A, B] (s0 :: s1 :: .par cs :: r) = (A (s0 :: s1 :: .par cs :: r)).andThen fun a e1 => (B e1).andThen fun b e2 => match lent 2 e2 with
  | some cs => (call g [.par cs, .val a, .val b]).lentTo 2 e2
  | none => .bad := x_callP3 call g 2 A B _ rfl
theorem x_cpp3 {s0 s1 s2 : Sl} {cs : List D} {r : En} (call : Str → En → Res D) (g : Str) (A B : M D) : callP call g 3 3 [A, B] (s0 :: s1 :: s2 :: .own cs :: r) = (A (s0 :: s1 :: s2 :: .own cs :: r)).andThen fun a e1 => (B e1).andThen fun b e2 => match lent 3 e2 with
  | some cs => (call g [.par cs, .val a, .val b]).lentTo 3 e2
  | none => .bad := x_callP3 call g 3 A B _ rfl
theorem x_cqq3 {s0 s1 s2 : Sl} {cs : List D} {r : En} (call : Str → En → Res D) (g : Str) (A B : M D) : callP call g 3 3 [A, B] (s0 :: s1 :: s2 :: .par cs :: r) = (A (s0 :: s1 :: s2 :: .par cs :: r)).andThen fun a e1 => (B e1).andThen fun b e2 => match lent 3 e2 with
  | some cs => (call g [.par cs, .val a, .val b]).lentTo 3 e2
  | none => .bad := x_callP3 call g 3 A B _ rfl
theorem x_cpp4 {s0 s1 s2 s3 : Sl} {cs : List D} {r : En} (call : Str → En → Res D) (g : Str) (A B : M D) : callP call g 3 4 [A, B] (s0 :: s1 :: s2 :: s3 :: .own cs :: r) = (A (s0 :: s1 :: s2 :: s3 :: .own cs :: r)).andThen fun a e1 => (B e1).andThen fun b e2 => match lent 4 e2 with
  | some cs => (call g [.par cs, .val a, .val b]).lentTo 4 e2
  | none => .bad := x_callP3 call g 4 A B _ rfl
theorem x_cqq4 {s0 s1 s2 s3 : Sl} {cs : List D} {r : En} (call : Str → En → Res D) (g : Str) (A B : M D) : callP call g 3 4 [A, B] (s0 :: s1 :: s2 :: s3 :: .par cs :: r) = (A (s0 :: s1 :: s2 :: s3 :: .par cs :: r)).andThen fun a e1 => (B e1).andThen fun b e2 => match lent 4 e2 with
  | some cs => (call g [.par cs, .val a, .val b]).lentTo 4 e2
  | none => .bad := x_callP3 call g 4 A B _ rfl
theorem x_cpp5 {s0 s1 s2 s3 s4 : Sl} {cs : List D} {r : En} (call : Str → En → Res D) (g : Str) (A B : M D) : callP call g 3 5 [A, B] (s0 :: s1 :: s2 :: s3 :: s4 :: .own cs :: r) = (A (s0 :: s1 :: s2 :: s3 :: s4 :: .own cs :: r)).andThen fun a e1 => (B e1).andThen fun b e2 => match lent 5 e2 with
  | some cs => (call g [.par cs, .val a, .val b]).lentTo 5 e2
  | none => .bad := x_callP3 call g 5 A B _ rfl
theorem x_cqq5 {s0 s1 s2 s3 s4 : Sl} {cs : List D} {r : En} (call : Str → En → Res D) (g : Str) (A B : M D) : callP call g 3 5 [A, B] (s0 :: s1 :: s2 :: s3 :: s4 :: .par cs :: r) = (A (s0 :: s1 :: s2 :: s3 :: s4 :: .par cs :: r)).andThen fun a e1 => (B e1).andThen fun b e2 => match lent 5 e2 with
  | some cs => (call g [.par cs, .val a, .val b]).lentTo 5 e2
  | none => .bad := x_callP3 call g 5 A B _ rfl
theorem x_as12 (i j l : Nat) (a b c : D) (e : En) : asgP 3 (.tp [.nm i, .tp [.nm j, .nm l]]) (.tuple [a, .tuple [b, c]]) e = (wrSlot i (.val a) e).andThen fun _ e1 => (wrSlot j (.val b) e1).andThen fun _ => wrSlot l (.val c) := by
  show bnd (wrSlot i (.val a)) (fun _ => bnd (bnd (wrSlot j (.val b)) fun _ => bnd (wrSlot l (.val c)) fun _ => ret ()) fun _ => ret ()) e = _
  unfold bnd Res.andThen
  cases wrSlot i (.val a) e with
  | ok u e1 =>
    dsimp only
    cases wrSlot j (.val b) e1 with
    | ok u e2 =>
      dsimp only
      cases wrSlot l (.val c) e2 <;> rfl
    | exc c e2 => rfl
    | bad => rfl
  | exc c e1 => rfl
  | bad => rfl
theorem x_lowM (r : Str → En → Res D) (B : (Str → En → Res D) → M D) : lowM (some r) B = B r := rfl
def tolTo (r : Res D) : Res D := match r with
  | .ok d e => .ok d e
  | .exc c e => (match trmD c with
    | some d => .ok d e
    | none => .bad)
  | .bad => .bad
theorem x_tolM (r : Str → En → Res D) (B : (Str → En → Res D) → M D) (e : En) : tolM (some r) B e = tolTo (B r e) := rfl
theorem x_tolTo (d : D) (e : En) : tolTo (.ok d e) = .ok d e := rfl
theorem x_tol_BadFolk (e : En) : tolTo (.exc "BadFolk" e) = .ok (.tuple [.str "refused", .str "BadFolk"]) e := by kernel_rfl
theorem x_tol_BadName (e : En) : tolTo (.exc "BadName" e) = .ok (.tuple [.str "refused", .str "BadName"]) e := by kernel_rfl
theorem x_tol_BadDay (e : En) : tolTo (.exc "BadDay" e) = .ok (.tuple [.str "refused", .str "BadDay"]) e := by kernel_rfl
theorem x_tol_BadMoment (e : En) : tolTo (.exc "BadMoment" e) = .ok (.tuple [.str "refused", .str "BadMoment"]) e := by kernel_rfl
theorem x_tol_BadNumber (e : En) : tolTo (.exc "BadNumber" e) = .ok (.tuple [.str "refused", .str "BadNumber"]) e := by kernel_rfl
theorem x_tol_BadSaying (e : En) : tolTo (.exc "BadSaying" e) = .ok (.tuple [.str "refused", .str "BadSaying"]) e := by kernel_rfl
theorem x_tol_BadBook (e : En) : tolTo (.exc "BadBook" e) = .ok (.tuple [.str "refused", .str "BadBook"]) e := by kernel_rfl
theorem x_tol_BadCounts (e : En) : tolTo (.exc "BadCounts" e) = .ok (.tuple [.str "refused", .str "BadCounts"]) e := by kernel_rfl
theorem x_tol_BadWeb (e : En) : tolTo (.exc "BadWeb" e) = .ok (.tuple [.str "refused", .str "BadWeb"]) e := by kernel_rfl
theorem x_tol_Nothing (e : En) : tolTo (.exc "Nothing" e) = .ok (.tuple [.str "refused", .str "Nothing"]) e := by kernel_rfl
theorem x_tol_BadText (e : En) : tolTo (.exc "BadText" e) = .ok (.tuple [.str "refused", .str "BadText"]) e := by kernel_rfl
end TD

set_option Elab.async false
set_option maxRecDepth 100000
set_option linter.all false
local macro_rules | `(tactic| simp! only [$args,*]) => `(tactic| simp -implicitDefEqProofs only [List.length_cons, List.length_nil, ↓reduceIte, List.replicate, List.cons_append, List.nil_append, List.map_cons, List.map_nil, Option.map_some, Bool.not_true, Bool.not_false, Bool.false_eq_true, Bool.true_eq_false, Bool.and_true, Bool.true_and, Bool.and_false, Bool.false_and, TD.x_bnd, TD.x_then_ok, TD.x_then_exc, TD.x_ret, TD.x_opt, TD.x_noX, TD.x_noExc, TD.x_keep_ok, TD.x_keep_exc, TD.x_lentTo, TD.x_seq0, TD.x_seqc, TD.x_opM, TD.x_cmpM, TD.x_cmpB, TD.x_cmp2M, TD.x_cmp2B, TD.x_andB, TD.x_orB, TD.x_notB, TD.x_boolThen, TD.x_andM, TD.x_orM, TD.x_negM, TD.x_notM, TD.x_asBool, TD.x_ifM, TD.x_tup0, TD.x_tup1, TD.x_tup2, TD.x_tup3, TD.x_lst0, TD.x_lst1, TD.x_bf1, TD.x_bf2, TD.x_mt1, TD.x_slM, TD.x_intThen, TD.x_partM, TD.x_rvM, TD.x_ixM, TD.x_isiM, TD.x_call1, TD.x_call2, TD.x_call3, TD.x_fl_next, TD.x_fl_ret, TD.x_fl_brk, TD.x_blk0, TD.x_blkc, TD.x_exS, TD.x_retS, TD.x_raiS, TD.x_valR, TD.x_own0, TD.x_own1, TD.x_cpyT, TD.x_cpyL, TD.x_cpyR, TD.x_setS, TD.x_setL, TD.x_wrL0, TD.x_wrLc, TD.x_unpS, TD.x_ifD, TD.x_ifS, TD.x_forS, TD.x_seqI, TD.x_seqOfL, TD.x_seqOfT, TD.x_rng1T, TD.x_rng1, TD.x_enuL, TD.x_enuT, TD.x_enuI, TD.x_zipL, TD.x_zipT, TD.x_zipI, TD.x_rd0, TD.x_rdo0, TD.x_wv0, TD.x_wo0, TD.x_wn0, TD.x_ixv0, TD.x_lnv0, TD.x_lno0, TD.x_mtv0, TD.x_mto0, TD.x_lt0, TD.x_lp0, TD.x_pt0, TD.x_pp0, TD.x_cp0, TD.x_cq0, TD.x_rd1, TD.x_rdo1, TD.x_wv1, TD.x_wo1, TD.x_wn1, TD.x_ixv1, TD.x_lnv1, TD.x_lno1, TD.x_mtv1, TD.x_mto1, TD.x_lt1, TD.x_lp1, TD.x_pt1, TD.x_pp1, TD.x_cp1, TD.x_cq1, TD.x_rd2, TD.x_rdo2, TD.x_wv2, TD.x_wo2, TD.x_wn2, TD.x_ixv2, TD.x_lnv2, TD.x_lno2, TD.x_mtv2, TD.x_mto2, TD.x_lt2, TD.x_lp2, TD.x_pt2, TD.x_pp2, TD.x_cp2, TD.x_cq2, TD.x_rd3, TD.x_rdo3, TD.x_wv3, TD.x_wo3, TD.x_wn3, TD.x_ixv3, TD.x_lnv3, TD.x_lno3, TD.x_mtv3, TD.x_mto3, TD.x_lt3, TD.x_lp3, TD.x_pt3, TD.x_pp3, TD.x_cp3, TD.x_cq3, TD.x_rd4, TD.x_rdo4, TD.x_wv4, TD.x_wo4, TD.x_wn4, TD.x_ixv4, TD.x_lnv4, TD.x_lno4, TD.x_mtv4, TD.x_mto4, TD.x_lt4, TD.x_lp4, TD.x_pt4, TD.x_pp4, TD.x_cp4, TD.x_cq4, TD.x_rd5, TD.x_rdo5, TD.x_wv5, TD.x_wo5, TD.x_wn5, TD.x_ixv5, TD.x_lnv5, TD.x_lno5, TD.x_mtv5, TD.x_mto5, TD.x_lt5, TD.x_lp5, TD.x_pt5, TD.x_pp5, TD.x_cp5, TD.x_cq5, TD.x_rd6, TD.x_rdo6, TD.x_wv6, TD.x_wo6, TD.x_wn6, TD.x_ixv6, TD.x_lnv6, TD.x_lno6, TD.x_mtv6, TD.x_mto6, TD.x_lt6, TD.x_lp6, TD.x_pt6, TD.x_pp6, TD.x_cp6, TD.x_cq6, TD.x_rd7, TD.x_rdo7, TD.x_wv7, TD.x_wo7, TD.x_wn7, TD.x_ixv7, TD.x_lnv7, TD.x_lno7, TD.x_mtv7, TD.x_mto7, TD.x_lt7, TD.x_lp7, TD.x_pt7, TD.x_pp7, TD.x_cp7, TD.x_cq7, TD.x_rd8, TD.x_rdo8, TD.x_wv8, TD.x_wo8, TD.x_wn8, TD.x_ixv8, TD.x_lnv8, TD.x_lno8, TD.x_mtv8, TD.x_mto8, TD.x_lt8, TD.x_lp8, TD.x_pt8, TD.x_pp8, TD.x_cp8, TD.x_cq8, TD.x_rd9, TD.x_rdo9, TD.x_wv9, TD.x_wo9, TD.x_wn9, TD.x_ixv9, TD.x_lnv9, TD.x_lno9, TD.x_mtv9, TD.x_mto9, TD.x_lt9, TD.x_lp9, TD.x_pt9, TD.x_pp9, TD.x_cp9, TD.x_cq9, TD.x_rd10, TD.x_rdo10, TD.x_wv10, TD.x_wo10, TD.x_wn10, TD.x_ixv10, TD.x_lnv10, TD.x_lno10, TD.x_mtv10, TD.x_mto10, TD.x_lt10, TD.x_lp10, TD.x_pt10, TD.x_pp10, TD.x_cp10, TD.x_cq10, TD.x_rd11, TD.x_rdo11, TD.x_wv11, TD.x_wo11, TD.x_wn11, TD.x_ixv11, TD.x_lnv11, TD.x_lno11, TD.x_mtv11, TD.x_mto11, TD.x_lt11, TD.x_lp11, TD.x_pt11, TD.x_pp11, TD.x_cp11, TD.x_cq11, TD.x_rd12, TD.x_rdo12, TD.x_wv12, TD.x_wo12, TD.x_wn12, TD.x_ixv12, TD.x_lnv12, TD.x_lno12, TD.x_mtv12, TD.x_mto12, TD.x_lt12, TD.x_lp12, TD.x_pt12, TD.x_pp12, TD.x_cp12, TD.x_cq12, TD.x_rd13, TD.x_rdo13, TD.x_wv13, TD.x_wo13, TD.x_wn13, TD.x_ixv13, TD.x_lnv13, TD.x_lno13, TD.x_mtv13, TD.x_mto13, TD.x_lt13, TD.x_lp13, TD.x_pt13, TD.x_pp13, TD.x_cp13, TD.x_cq13, TD.x_bor, TD.x_back, TD.x_backE, TD.x_backTo, TD.x_frzv, TD.x_frzo, TD.x_frzp, TD.x_frzn, TD.x_rs0, TD.x_rsv, TD.x_rso, TD.x_rsn, TD.x_rsp, TD.x_asn, TD.x_as2, TD.x_as3, TD.x_app, TD.x_popAt, TD.x_rem, TD.x_ap0, TD.x_po0, TD.x_pa0, TD.x_ap1, TD.x_po1, TD.x_pa1, TD.x_ap2, TD.x_po2, TD.x_pa2, TD.x_ap3, TD.x_po3, TD.x_pa3, TD.x_ap4, TD.x_po4, TD.x_pa4, TD.x_ap5, TD.x_po5, TD.x_pa5, TD.x_ap6, TD.x_po6, TD.x_pa6, TD.x_ap7, TD.x_po7, TD.x_pa7, TD.x_ap8, TD.x_po8, TD.x_pa8, TD.x_ap9, TD.x_po9, TD.x_pa9, TD.x_ap10, TD.x_po10, TD.x_pa10, TD.x_ap11, TD.x_po11, TD.x_pa11, TD.x_ap12, TD.x_po12, TD.x_pa12, TD.x_ap13, TD.x_po13, TD.x_pa13, TD.o_mul2, TD.o_add, TD.o_sub, TD.o_lt, TD.o_le, TD.o_gt, TD.o_ge, TD.o_eqi, TD.o_nei, TD.len_day, TD.len_nsT, TD.len_nsL, TD.isi_day, TD.isi_ev, TD.isi_word, TD.isi_nm, TD.ix_ev0, TD.ix_ev1, TD.len_ev, TD.sl_dayTo, TD.tup_comes, TD.tup_leaves, TD.idx_day, TD.cnt_day, TD.in_nsT, TD.in_nsL, TD.seq_day, TD.seq_nsT, TD.seq_nsL, TD.o_word, TD.o_word', TD.x_rd14, TD.x_rd15, TD.x_rd16, TD.x_rd17, TD.x_rd18, TD.x_rd19, TD.x_rd20, TD.x_rd21, TD.x_rd22, TD.x_rd23, TD.x_rd24, TD.x_rd25, TD.x_rdo14, TD.x_rdo15, TD.x_rdo16, TD.x_rdo17, TD.x_rdo18, TD.x_rdo19, TD.x_rdo20, TD.x_rdo21, TD.x_rdo22, TD.x_rdo23, TD.x_rdo24, TD.x_rdo25, TD.x_wv14, TD.x_wv15, TD.x_wv16, TD.x_wv17, TD.x_wv18, TD.x_wv19, TD.x_wv20, TD.x_wv21, TD.x_wv22, TD.x_wv23, TD.x_wv24, TD.x_wv25, TD.x_wo14, TD.x_wo15, TD.x_wo16, TD.x_wo17, TD.x_wo18, TD.x_wo19, TD.x_wo20, TD.x_wo21, TD.x_wo22, TD.x_wo23, TD.x_wo24, TD.x_wo25, TD.x_wn14, TD.x_wn15, TD.x_wn16, TD.x_wn17, TD.x_wn18, TD.x_wn19, TD.x_wn20, TD.x_wn21, TD.x_wn22, TD.x_wn23, TD.x_wn24, TD.x_wn25, TD.x_ixv14, TD.x_ixv15, TD.x_ixv16, TD.x_ixv17, TD.x_ixv18, TD.x_ixv19, TD.x_ixv20, TD.x_ixv21, TD.x_ixv22, TD.x_ixv23, TD.x_ixv24, TD.x_ixv25, TD.x_lnv14, TD.x_lnv15, TD.x_lnv16, TD.x_lnv17, TD.x_lnv18, TD.x_lnv19, TD.x_lnv20, TD.x_lnv21, TD.x_lnv22, TD.x_lnv23, TD.x_lnv24, TD.x_lnv25, TD.x_lno14, TD.x_lno15, TD.x_lno16, TD.x_lno17, TD.x_lno18, TD.x_lno19, TD.x_lno20, TD.x_lno21, TD.x_lno22, TD.x_lno23, TD.x_lno24, TD.x_lno25, TD.x_mtv14, TD.x_mtv15, TD.x_mtv16, TD.x_mtv17, TD.x_mtv18, TD.x_mtv19, TD.x_mtv20, TD.x_mtv21, TD.x_mtv22, TD.x_mtv23, TD.x_mtv24, TD.x_mtv25, TD.x_mto14, TD.x_mto15, TD.x_mto16, TD.x_mto17, TD.x_mto18, TD.x_mto19, TD.x_mto20, TD.x_mto21, TD.x_mto22, TD.x_mto23, TD.x_mto24, TD.x_mto25, TD.x_lt14, TD.x_lt15, TD.x_lt16, TD.x_lt17, TD.x_lt18, TD.x_lt19, TD.x_lt20, TD.x_lt21, TD.x_lt22, TD.x_lt23, TD.x_lt24, TD.x_lt25, TD.x_lp14, TD.x_lp15, TD.x_lp16, TD.x_lp17, TD.x_lp18, TD.x_lp19, TD.x_lp20, TD.x_lp21, TD.x_lp22, TD.x_lp23, TD.x_lp24, TD.x_lp25, TD.x_pt14, TD.x_pt15, TD.x_pt16, TD.x_pt17, TD.x_pt18, TD.x_pt19, TD.x_pt20, TD.x_pt21, TD.x_pt22, TD.x_pt23, TD.x_pt24, TD.x_pt25, TD.x_pp14, TD.x_pp15, TD.x_pp16, TD.x_pp17, TD.x_pp18, TD.x_pp19, TD.x_pp20, TD.x_pp21, TD.x_pp22, TD.x_pp23, TD.x_pp24, TD.x_pp25, TD.x_cp14, TD.x_cp15, TD.x_cp16, TD.x_cp17, TD.x_cp18, TD.x_cp19, TD.x_cp20, TD.x_cp21, TD.x_cp22, TD.x_cp23, TD.x_cp24, TD.x_cp25, TD.x_cq14, TD.x_cq15, TD.x_cq16, TD.x_cq17, TD.x_cq18, TD.x_cq19, TD.x_cq20, TD.x_cq21, TD.x_cq22, TD.x_cq23, TD.x_cq24, TD.x_cq25, TD.x_ap14, TD.x_ap15, TD.x_ap16, TD.x_ap17, TD.x_ap18, TD.x_ap19, TD.x_ap20, TD.x_ap21, TD.x_ap22, TD.x_ap23, TD.x_ap24, TD.x_ap25, TD.x_po14, TD.x_po15, TD.x_po16, TD.x_po17, TD.x_po18, TD.x_po19, TD.x_po20, TD.x_po21, TD.x_po22, TD.x_po23, TD.x_po24, TD.x_po25, TD.x_pa14, TD.x_pa15, TD.x_pa16, TD.x_pa17, TD.x_pa18, TD.x_pa19, TD.x_pa20, TD.x_pa21, TD.x_pa22, TD.x_pa23, TD.x_pa24, TD.x_pa25, TD.x_re14, TD.x_re15, TD.x_re16, TD.x_re17, TD.x_re18, TD.x_re19, TD.x_re20, TD.x_re21, TD.x_re22, TD.x_re23, TD.x_re24, TD.x_re25, TD.x_ixp14, TD.x_ixp15, TD.x_ixp16, TD.x_ixp17, TD.x_ixp18, TD.x_ixp19, TD.x_ixp20, TD.x_ixp21, TD.x_ixp22, TD.x_ixp23, TD.x_ixp24, TD.x_ixp25, TD.x_ixo0, TD.x_ixt0, TD.x_ixo1, TD.x_ixt1, TD.x_ixo2, TD.x_ixt2, TD.x_ixo3, TD.x_ixt3, TD.x_ixo4, TD.x_ixt4, TD.x_ixo5, TD.x_ixt5, TD.x_ixo6, TD.x_ixt6, TD.x_ixo7, TD.x_ixt7, TD.x_ixo8, TD.x_ixt8, TD.x_ixo9, TD.x_ixt9, TD.x_ixo10, TD.x_ixt10, TD.x_ixo11, TD.x_ixt11, TD.x_ixo12, TD.x_ixt12, TD.x_ixo13, TD.x_ixt13, TD.x_ixo14, TD.x_ixt14, TD.x_ixo15, TD.x_ixt15, TD.x_ixo16, TD.x_ixt16, TD.x_ixo17, TD.x_ixt17, TD.x_ixo18, TD.x_ixt18, TD.x_ixo19, TD.x_ixt19, TD.x_ixo20, TD.x_ixt20, TD.x_ixo21, TD.x_ixt21, TD.x_ixo22, TD.x_ixt22, TD.x_ixo23, TD.x_ixt23, TD.x_ixo24, TD.x_ixt24, TD.x_ixo25, TD.x_ixt25, TD.x_tup4, TD.x_tup5, TD.x_tup6, TD.x_lst2, TD.x_lst3, TD.x_lst4, TD.x_lst5, TD.x_lst6, TD.x_lst7, TD.x_lst8, TD.x_lst9, TD.x_lst10, TD.x_lst11, TD.x_lst12, TD.x_lst13, TD.x_lst14, TD.x_own2, TD.x_own3, TD.x_lim2, TD.x_lim3, TD.x_lim4, TD.x_lim5, TD.x_lim6, TD.x_lim7, TD.x_lim8, TD.x_lim9, TD.x_lim10, TD.x_lim11, TD.x_lim12, TD.x_lim13, TD.x_lim14, TD.x_ltl0, TD.x_ltl1, TD.x_ltl2, TD.x_ltl3, TD.x_ltl4, TD.x_ltl5, TD.x_ltl6, TD.x_ltl7, TD.x_ltl8, TD.x_ltl9, TD.x_ltl10, TD.x_ltl11, TD.x_ltl12, TD.x_ltl13, TD.x_ltl14, TD.x_call4, TD.x_cl4, TD.x_call5, TD.x_cl5, TD.x_cpp0, TD.x_cqq0, TD.x_cpp1, TD.x_cqq1, TD.x_cpp2, TD.x_cqq2, TD.x_cpp3, TD.x_cqq3, TD.x_cpp4, TD.x_cqq4, TD.x_cpp5, TD.x_cqq5, TD.x_as12, TD.x_lowM, TD.x_tolM, TD.x_tolTo, TD.x_tol_BadFolk, TD.x_tol_BadName, TD.x_tol_BadDay, TD.x_tol_BadMoment, TD.x_tol_BadNumber, TD.x_tol_BadSaying, TD.x_tol_BadBook, TD.x_tol_BadCounts, TD.x_tol_BadWeb, TD.x_tol_Nothing, TD.x_tol_BadText, $args,*])
namespace TD
open PySem
abbrev Prog : Program := PySem.Challenge.pw_throngday_k05_whole_numbers
def globs : List (Str × D) := [("SMALL", .str "abcdefghijklmnopqrstuvwxyz")]
def excs : List Str := ["BadFolk", "BadName", "BadDay", "BadMoment", "BadNumber", "BadSaying", "BadBook", "BadCounts", "BadWeb", "Nothing", "BadText"]
def tb : Tb := mkTb globs excs (TD.defsOf Prog)
def c_is_whole (call : Str → En → Res D) : En → Res D := defC 3 0
  (blk [(retS (andM (isiM "int" (rdSlot 0)) (andM (bnd (isiM "bool" (rdSlot 0)) notM) (cmp2M .LtE .LtE (rdSlot 1) (rdSlot 0) (rdSlot 2)))))])
def c_is_word_C1 (call : Str → En → Res D) : M D :=
  compM [1, 2] (seqI (rdSlot 0)) (.nm 2) (ret true) (cmpM .In (rdSlot 2) (ret (.str "abcdefghijklmnopqrstuvwxyz")))
def c_is_word (call : Str → En → Res D) : En → Res D := defC 1 2
  (blk [(retS (andM (isiM "str" (rdSlot 0)) (andM (cmp2M .LtE .LtE (ret (.int 1)) (lenN 0 (rdSlot 0)) (ret (.int 8))) (bfM allD [(c_is_word_C1 call)]))))])
def c_rise_C1 (call : Str → En → Res D) : M D :=
  compM [1, 2, 3] (zipI (rdSlot 0) (slM (rdSlot 0) (partM (ret (.int 1))) (ret none))) (.tp [(.nm 2), (.nm 3)]) (ret true) (cmpM .Lt (rdSlot 2) (rdSlot 3))
def c_rise (call : Str → En → Res D) : En → Res D := defC 1 3
  (blk [(retS (bfM allD [(c_rise_C1 call)]))])
def c_are_folk_C1 (call : Str → En → Res D) : M D :=
  compM [1, 2] (seqI (rdSlot 0)) (.nm 2) (ret true) (callV call "is_word" 1 [(rdSlot 2)])
def c_are_folk (call : Str → En → Res D) : En → Res D := defC 1 2
  (blk [(retS (andM (isiM "tuple" (rdSlot 0)) (andM (cmp2M .LtE .LtE (ret (.int 2)) (lenN 0 (rdSlot 0)) (ret (.int 4))) (andM (bfM allD [(c_are_folk_C1 call)]) (callV call "rise" 1 [(rdSlot 0)])))))])
def c_need_folk (call : Str → En → Res D) : En → Res D := defC 1 0
  (blk [(ifS (notB (bnd (callV call "are_folk" 1 [(rdSlot 0)]) asBool))
      (blk [(raiS "BadFolk")])
      (blk []))])
def c_is_name (call : Str → En → Res D) : En → Res D := defC 2 0
  (blk [(retS (andM (isiM "str" (rdSlot 1)) (cmpM .In (rdSlot 1) (rdSlot 0))))])
def c_is_event (call : Str → En → Res D) : En → Res D := defC 2 0
  (blk [(ifS (orB (notB (bnd (isiM "tuple" (rdSlot 1)) asBool)) (orB (cmpB .NotEq (lenN 1 (rdSlot 1)) (ret (.int 2))) (notB (bnd (isiM "str" (ixN 1 (rdSlot 1) (ret (.int 0)))) asBool))))
      (blk [(retS (ret (.bool false)))])
      (blk [])),
    (retS (andM (cmpM .In (ixN 1 (rdSlot 1) (ret (.int 0))) (tupM [(ret (.str "comes")), (ret (.str "leaves"))])) (callV call "is_name" 2 [(rdSlot 0), (ixN 1 (rdSlot 1) (ret (.int 1)))])))])
def c_is_good_day_C1 (call : Str → En → Res D) : M D :=
  compM [3, 2] (seqI (rdSlot 1)) (.nm 2) (ret true) (callV call "is_event" 2 [(rdSlot 0), (rdSlot 2)])
def c_is_good_day_B1 (call : Str → En → Res D) : M Fl :=
  (blk [(ifS (orB (cmpB .NotEq (mtN 1 (fun _ => bad) (mtM cntM (rdSlot 1) [(tupM [(ret (.str "comes")), (rdSlot 2)])])) (ret (.int 1))) (cmpB .NotEq (mtN 1 (fun _ => bad) (mtM cntM (rdSlot 1) [(tupM [(ret (.str "leaves")), (rdSlot 2)])])) (ret (.int 1))))
      (blk [(retS (ret (.bool false)))])
      (blk [])),
    (ifS (cmpB .Gt (mtN 1 (fun _ => bad) (mtM idxM (rdSlot 1) [(tupM [(ret (.str "comes")), (rdSlot 2)])])) (mtN 1 (fun _ => bad) (mtM idxM (rdSlot 1) [(tupM [(ret (.str "leaves")), (rdSlot 2)])])))
      (blk [(retS (ret (.bool false)))])
      (blk []))])
def c_is_good_day (call : Str → En → Res D) : En → Res D := defC 2 2
  (blk [(ifS (orB (notB (bnd (isiM "list" (rdSlot 1)) asBool)) (orB (cmpB .NotEq (lenN 1 (rdSlot 1)) (opM .Mult (ret (.int 2)) (lenN 0 (rdSlot 0)))) (notB (bnd (bfM allD [(c_is_good_day_C1 call)]) asBool))))
      (blk [(retS (ret (.bool false)))])
      (blk [])),
    (forS (.nm 2) (seqI (rdSlot 0)) (c_is_good_day_B1 call)),
    (retS (ret (.bool true)))])
def c_need_day (call : Str → En → Res D) : En → Res D := defC 2 0
  (blk [(exS (callV call "need_folk" 1 [(rdSlot 0)])),
    (ifS (notB (bnd (callV call "is_good_day" 2 [(rdSlot 0), (rdSlot 1)]) asBool))
      (blk [(raiS "BadDay")])
      (blk []))])
def c_next_events_C1 (call : Str → En → Res D) : M D :=
  compM [4, 5] (seqI (rdSlot 0)) (.nm 5) (cmpB .In (tupM [(ret (.str "comes")), (rdSlot 5)]) (rdSlot 1)) (rdSlot 5)
def c_next_events_C2 (call : Str → En → Res D) : M D :=
  compM [4, 5] (seqI (rdSlot 2)) (.nm 5) (cmpB .NotIn (tupM [(ret (.str "leaves")), (rdSlot 5)]) (rdSlot 1)) (rdSlot 5)
def c_next_events_C3 (call : Str → En → Res D) : M D :=
  compM [4, 5] (seqI (rdSlot 0)) (.nm 5) (cmpB .NotIn (rdSlot 5) (rdSlot 2)) (tupM [(ret (.str "comes")), (rdSlot 5)])
def c_next_events_C4 (call : Str → En → Res D) : M D :=
  compM [4, 5] (seqI (rdSlot 3)) (.nm 5) (ret true) (tupM [(ret (.str "leaves")), (rdSlot 5)])
def c_next_events (call : Str → En → Res D) : En → Res D := defC 2 4
  (blk [(setS 2 (valR (c_next_events_C1 call))),
    (setS 3 (valR (c_next_events_C2 call))),
    (retS (opM .Add (c_next_events_C3 call) (c_next_events_C4 call)))])
def c_every_day_C1 (call : Str → En → Res D) : M D :=
  compM [8, 9] (seqI (rdSlot 5)) (.nm 9) (cmpB .NotEq (rdSlot 9) (rdSlot 6)) (rdSlot 9)
def c_every_day_B1 (call : Str → En → Res D) : M Fl :=
  (blk [(exS (mtN 2 (appM (tupM [(opM .Add (rdSlot 3) (lstM [(tupM [(ret (.str "leaves")), (rdSlot 6)])])), (rdSlot 4), (bfM tupD [(c_every_day_C1 call)])])) (mtM (fun _ _ => none) (rdSlot 2) [(tupM [(opM .Add (rdSlot 3) (lstM [(tupM [(ret (.str "leaves")), (rdSlot 6)])])), (rdSlot 4), (bfM tupD [(c_every_day_C1 call)])])])))])
def c_every_day_C2 (call : Str → En → Res D) : M D :=
  compM [8, 9] (seqI (rdSlot 4)) (.nm 9) (cmpB .NotEq (rdSlot 9) (rdSlot 6)) (rdSlot 9)
def c_every_day_B2 (call : Str → En → Res D) : M Fl :=
  (blk [(setS 7 (valR (bfM tupD [(c_every_day_C2 call)]))),
    (exS (mtN 2 (appM (tupM [(opM .Add (rdSlot 3) (lstM [(tupM [(ret (.str "comes")), (rdSlot 6)])])), (rdSlot 7), (bfM tupD [(bfM sortedD [(opM .Add (rdSlot 5) (tupM [(rdSlot 6)]))])])])) (mtM (fun _ _ => none) (rdSlot 2) [(tupM [(opM .Add (rdSlot 3) (lstM [(tupM [(ret (.str "comes")), (rdSlot 6)])])), (rdSlot 7), (bfM tupD [(bfM sortedD [(opM .Add (rdSlot 5) (tupM [(rdSlot 6)]))])])])])))])
def c_every_day_B3 (call : Str → En → Res D) : M Fl :=
  (blk [(unpS (.tp [(.nm 3), (.nm 4), (.nm 5)]) (mtN 2 popM (mtM (fun _ _ => none) (rdSlot 2) []))),
    (ifS (andB (cmpB .Eq (rdSlot 4) (tupM [])) (cmpB .Eq (rdSlot 5) (tupM [])))
      (blk [(exS (mtN 1 (appM (rdSlot 3)) (mtM (fun _ _ => none) (rdSlot 1) [(rdSlot 3)])))])
      (blk [])),
    (forS (.nm 6) (seqI (rvM (rdSlot 5))) (c_every_day_B1 call)),
    (forS (.nm 6) (seqI (rvM (rdSlot 4))) (c_every_day_B2 call))])
def c_every_day (call : Str → En → Res D) : En → Res D := defC 1 9
  (blk [(setS 1 (ownR [])),
    (setS 2 (ownR [(tupM [(lstM []), (rdSlot 0), (tupM [])])])),
    (whlS (cmpB .NotEq (rdSlot 2) (lstM [])) (c_every_day_B3 call)),
    (retS (rdSlot 1))])
def c_all_days (call : Str → En → Res D) : En → Res D := defC 1 0
  (blk [(exS (callV call "need_folk" 1 [(rdSlot 0)])),
    (retS (callV call "every_day" 1 [(rdSlot 0)]))])
def c_ways_on (call : Str → En → Res D) : En → Res D := defC 2 1
  (blk [(ifS (andB (cmpB .Eq (rdSlot 0) (ret (.int 0))) (cmpB .Eq (rdSlot 1) (ret (.int 0))))
      (blk [(retS (ret (.int 1)))])
      (blk [])),
    (setS 2 (valR (ifM (cmpB .Gt (rdSlot 0) (ret (.int 0))) (opM .Mult (rdSlot 0) (callV call "ways_on" 2 [(opM .Sub (rdSlot 0) (ret (.int 1))), (opM .Add (rdSlot 1) (ret (.int 1)))])) (ret (.int 0))))),
    (retS (opM .Add (rdSlot 2) (ifM (cmpB .Gt (rdSlot 1) (ret (.int 0))) (opM .Mult (rdSlot 1) (callV call "ways_on" 2 [(rdSlot 0), (opM .Sub (rdSlot 1) (ret (.int 1)))])) (ret (.int 0)))))])
def c_how_many_days (call : Str → En → Res D) : En → Res D := defC 1 0
  (blk [(exS (callV call "need_folk" 1 [(rdSlot 0)])),
    (retS (callV call "ways_on" 2 [(lenN 0 (rdSlot 0)), (ret (.int 0))]))])
def c_behind_C1 (call : Str → En → Res D) : M D :=
  compM [3, 4] (seqI (rdSlot 1)) (.nm 4) (cmpB .Eq (ixN 4 (rdSlot 4) (ret (.int 0))) (ret (.str "comes"))) (rdSlot 4)
def c_behind (call : Str → En → Res D) : En → Res D := defC 2 3
  (blk [(setS 2 (valR (bfM lenD [(c_behind_C1 call)]))),
    (retS (callV call "ways_on" 2 [(opM .Sub (lenN 0 (rdSlot 0)) (rdSlot 2)), (opM .Sub (opM .Mult (ret (.int 2)) (rdSlot 2)) (lenN 1 (rdSlot 1)))]))])
def c_day_at_B1 (call : Str → En → Res D) : M Fl :=
  (blk [(setS 4 (valR (callV call "behind" 2 [(rdSlot 0), (opM .Add (rdSlot 2) (lstM [(rdSlot 3)]))]))),
    (ifS (cmpB .Lt (rdSlot 1) (rdSlot 4))
      (blk [(setS 2 (valR (opM .Add (rdSlot 2) (lstM [(rdSlot 3)])))),
        (ret .brk)])
      (blk [])),
    (setS 1 (valR (opM .Sub (rdSlot 1) (rdSlot 4))))])
def c_day_at_B2 (call : Str → En → Res D) : M Fl :=
  (blk [(forS (.nm 3) (seqI (callV call "next_events" 2 [(rdSlot 0), (rdSlot 2)])) (c_day_at_B1 call))])
def c_day_at (call : Str → En → Res D) : En → Res D := defC 2 3
  (blk [(exS (callV call "need_folk" 1 [(rdSlot 0)])),
    (ifS (notB (bnd (callV call "is_whole" 3 [(rdSlot 1), (ret (.int 0)), (opM .Sub (callV call "ways_on" 2 [(lenN 0 (rdSlot 0)), (ret (.int 0))]) (ret (.int 1)))]) asBool))
      (blk [(raiS "BadNumber")])
      (blk [])),
    (setS 2 (ownR [])),
    (whlS (cmpB .Lt (lenN 2 (rdSlot 2)) (opM .Mult (ret (.int 2)) (lenN 0 (rdSlot 0)))) (c_day_at_B2 call)),
    (retS (rdSlot 2))])
def c_number_of_C1 (call : Str → En → Res D) : M D :=
  compM [6, 7] (seqI (rdSlot 5)) (.nm 7) (cmpB .Lt (rdSlot 7) (rdSlot 4)) (callV call "behind" 2 [(rdSlot 0), (opM .Add (slM (rdSlot 1) (ret none) (partM (rdSlot 3))) (lstM [(rdSlot 7)]))])
def c_number_of_B1 (call : Str → En → Res D) : M Fl :=
  (blk [(setS 5 (valR (callV call "next_events" 2 [(rdSlot 0), (slM (rdSlot 1) (ret none) (partM (rdSlot 3)))]))),
    (setS 2 (valR (opM .Add (rdSlot 2) (bfM sumD [(c_number_of_C1 call)]))))])
def c_number_of (call : Str → En → Res D) : En → Res D := defC 2 6
  (blk [(exS (callV call "need_day" 2 [(rdSlot 0), (rdSlot 1)])),
    (setS 2 (valR (ret (.int 0)))),
    (forS (.tp [(.nm 3), (.nm 4)]) (enuI (rdSlot 1)) (c_number_of_B1 call)),
    (retS (rdSlot 2))])
def c_law_drawn (call : Str → En → Res D) : En → Res D := defC 2 1
  (blk [(setS 2 (valR (opM .Mod (opM .Add (opM .Mult (rdSlot 0) (ret (.int 6364136223846793005))) (opM .Mult (opM .Add (rdSlot 1) (ret (.int 1))) (ret (.int 1442695040888963407)))) (ret (.int 340282366920938463463374607431768211507))))),
    (setS 2 (valR (opM .Mod (opM .Mult (rdSlot 2) (rdSlot 2)) (ret (.int 340282366920938463463374607431768211297))))),
    (setS 2 (valR (opM .Mult (opM .Mult (opM .Add (opM .Mod (rdSlot 2) (ret (.int 18446744073709551557))) (ret (.int 1))) (opM .Add (opM .FloorDiv (rdSlot 2) (ret (.int 18446744073709551557))) (ret (.int 1)))) (rdSlot 2)))),
    (retS (opM .Mod (rdSlot 2) (ret (.int 340282366920938463463374607431768211507))))])
def c_law_roll (call : Str → En → Res D) : En → Res D := defC 2 1
  (blk [(ifS (cmpB .GtE (ixN 0 (rdSlot 0) (ret (.int 0))) (opM .Pow (ret (.int 10)) (ret (.int 18))))
      (blk [(setS 2 (valR (opM .Mod (ixN 0 (rdSlot 0) (ret (.int 0))) (rdSlot 1)))),
        (itmS 0 (ret (.int 0)) (opM .FloorDiv (ixN 0 (rdSlot 0) (ret (.int 0))) (rdSlot 1))),
        (retS (rdSlot 2))])
      (blk [])),
    (itmS 0 (ret (.int 1)) (opM .Add (ixN 0 (rdSlot 0) (ret (.int 1))) (ret (.int 1)))),
    (retS (opM .Mod (opM .FloorDiv (callV call "_law_drawn" 2 [(ixN 0 (rdSlot 0) (ret (.int 0))), (ixN 0 (rdSlot 0) (ret (.int 1)))]) (ret (.int 8))) (rdSlot 1)))])
def c_law_any_folk (call : Str → En → Res D) : En → Res D := defC 2 1
  (blk [(setS 2 (valR (ixM (lstM [(ret (.int 3)), (ret (.int 2)), (ret (.int 3)), (ret (.int 4))]) (callP call "_law_roll" 2 0 [(rdSlot 1)])))),
    (retS (slM (tupM [(ret (.str "ann")), (ret (.str "bob")), (ret (.str "cy")), (ret (.str "dee"))]) (ret none) (partM (rdSlot 2))))])
def c_law_any_day_B1 (call : Str → En → Res D) : M Fl :=
  (blk [(ifS (orB (cmpB .Eq (rdSlot 3) (lstM [])) (andB (cmpB .NotEq (rdSlot 2) (lstM [])) (cmpB .Eq (callP call "_law_roll" 2 0 [(ret (.int 2))]) (ret (.int 0)))))
      (blk [(setS 6 (valR (mtN 2 (popAtM (callP call "_law_roll" 2 0 [(lenN 2 (rdSlot 2))])) (mtM (fun _ _ => none) (rdSlot 2) [(callP call "_law_roll" 2 0 [(lenN 2 (rdSlot 2))])])))),
        (exS (mtN 3 (appM (rdSlot 6)) (mtM (fun _ _ => none) (rdSlot 3) [(rdSlot 6)]))),
        (exS (mtN 4 (appM (tupM [(ret (.str "comes")), (rdSlot 6)])) (mtM (fun _ _ => none) (rdSlot 4) [(tupM [(ret (.str "comes")), (rdSlot 6)])])))])
      (blk [(exS (mtN 4 (appM (tupM [(ret (.str "leaves")), (mtN 3 (popAtM (callP call "_law_roll" 2 0 [(lenN 3 (rdSlot 3))])) (mtM (fun _ _ => none) (rdSlot 3) [(callP call "_law_roll" 2 0 [(lenN 3 (rdSlot 3))])]))])) (mtM (fun _ _ => none) (rdSlot 4) [(tupM [(ret (.str "leaves")), (mtN 3 (popAtM (callP call "_law_roll" 2 0 [(lenN 3 (rdSlot 3))])) (mtM (fun _ _ => none) (rdSlot 3) [(callP call "_law_roll" 2 0 [(lenN 3 (rdSlot 3))])]))])])))]))])
def c_law_any_day (call : Str → En → Res D) : En → Res D := defC 2 5
  (blk [(setL [2, 3, 4] [(cpyR (rdSlot 1)), (ownR []), (ownR [])]),
    (forS (.nm 5) (rng1 (opM .Mult (ret (.int 2)) (lenN 1 (rdSlot 1)))) (c_law_any_day_B1 call)),
    (retS (rdSlot 4))])
def c_law_all_days_B1 (call : Str → En → Res D) : M Fl :=
  (blk [(ifS (cmpB .NotIn (tupM [(ret (.str "comes")), (rdSlot 5)]) (rdSlot 4))
      (blk [(exS (mtN 3 (appM (opM .Add (rdSlot 4) (lstM [(tupM [(ret (.str "comes")), (rdSlot 5)])]))) (mtM (fun _ _ => none) (rdSlot 3) [(opM .Add (rdSlot 4) (lstM [(tupM [(ret (.str "comes")), (rdSlot 5)])]))])))])
      (blk [(ifS (cmpB .NotIn (tupM [(ret (.str "leaves")), (rdSlot 5)]) (rdSlot 4))
          (blk [(exS (mtN 3 (appM (opM .Add (rdSlot 4) (lstM [(tupM [(ret (.str "leaves")), (rdSlot 5)])]))) (mtM (fun _ _ => none) (rdSlot 3) [(opM .Add (rdSlot 4) (lstM [(tupM [(ret (.str "leaves")), (rdSlot 5)])]))])))])
          (blk []))]))])
def c_law_all_days_B2 (call : Str → En → Res D) : M Fl :=
  (blk [(forS (.nm 5) (seqI (rdSlot 0)) (c_law_all_days_B1 call))])
def c_law_all_days_B3 (call : Str → En → Res D) : M Fl :=
  (blk [(setS 3 (ownR [])),
    (forS (.nm 4) (seqI (rdSlot 1)) (c_law_all_days_B2 call)),
    (setS 1 (valR (rdSlot 3)))])
def c_law_all_days (call : Str → En → Res D) : En → Res D := defC 1 5
  (blk [(setS 1 (ownR [(lstM [])])),
    (forS (.nm 2) (rng1 (opM .Mult (ret (.int 2)) (lenN 0 (rdSlot 0)))) (c_law_all_days_B3 call)),
    (retS (bfM sortedD [(rdSlot 1)]))])
def c_law_B1 (call : Str → En → Res D) (low : Option (Str → En → Res D)) : M Fl :=
  (blk [(setS 3 (valR (opM .Mult (opM .Mult (rdSlot 3) (opM .Add (opM .Mult (ret (.int 2)) (rdSlot 4)) (ret (.int 1)))) (opM .Add (rdSlot 4) (ret (.int 1))))))])
def c_law_B2 (call : Str → En → Res D) (low : Option (Str → En → Res D)) : M Fl :=
  (blk [(setS 6 (valR (callP call "_law_roll" 2 1 [(rdSlot 3)]))),
    (ifS (orB (cmpB .NotEq (callV call "day_at" 2 [(rdSlot 9), (rdSlot 6)]) (ixN 2 (rdSlot 2) (rdSlot 6))) (cmpB .NotEq (callV call "number_of" 2 [(rdSlot 9), (ixN 2 (rdSlot 2) (rdSlot 6))]) (rdSlot 6)))
      (blk [(retS (ret (.bool false)))])
      (blk []))])
def c_law_C1 (call : Str → En → Res D) (low : Option (Str → En → Res D)) : M D :=
  compM [10, 11] (seqI (rdSlot 9)) (.nm 11) (ret true) (tupM [(ret (.str "comes")), (rdSlot 11)])
def c_law_C2 (call : Str → En → Res D) (low : Option (Str → En → Res D)) : M D :=
  compM [10, 11] (seqI (rdSlot 9)) (.nm 11) (ret true) (tupM [(ret (.str "leaves")), (rdSlot 11)])
def c_law_B3 (call : Str → En → Res D) (low : Option (Str → En → Res D)) : M Fl :=
  (blk [(ifS (cmpB .NotEq (tolM low (fun call => (callV call "day_at" 2 [(rdSlot 9), (rdSlot 8)]))) (tupM [(ret (.str "refused")), (ret (.str "BadNumber"))]))
      (blk [(retS (ret (.bool false)))])
      (blk []))])
def c_law (call : Str → En → Res D) (low : Option (Str → En → Res D)) : M Fl :=
  (blk [(setS 9 (valR (callP call "_law_any_folk" 2 1 [(ret (.int 4))]))),
    (setL [2, 3] [(valR (callV call "_law_all_days" 1 [(rdSlot 9)])), (valR (ret (.int 1)))]),
    (forS (.nm 4) (rng1 (lenN 9 (rdSlot 9))) (c_law_B1 call low)),
    (ifS (orB (cmpB .NotEq (callV call "all_days" 1 [(rdSlot 9)]) (rdSlot 2)) (orB (cmpB .NotEq (callV call "how_many_days" 1 [(rdSlot 9)]) (rdSlot 3)) (cmpB .NotEq (lenN 2 (rdSlot 2)) (rdSlot 3))))
      (blk [(retS (ret (.bool false)))])
      (blk [])),
    (forS (.nm 5) (rng1 (ret (.int 8))) (c_law_B2 call low)),
    (setS 7 (valR (callP call "_law_any_day" 2 1 [(rdSlot 9)]))),
    (ifS (orB (cmpB .NotEq (callV call "day_at" 2 [(rdSlot 9), (callV call "number_of" 2 [(rdSlot 9), (rdSlot 7)])]) (rdSlot 7)) (cmpB .NotEq (ixN 2 (rdSlot 2) (callV call "number_of" 2 [(rdSlot 9), (rdSlot 7)])) (rdSlot 7)))
      (blk [(retS (ret (.bool false)))])
      (blk [])),
    (ifS (cmpB .NotEq (callV call "day_at" 2 [(rdSlot 9), (ret (.int 0))]) (opM .Add (c_law_C1 call low) (c_law_C2 call low)))
      (blk [(retS (ret (.bool false)))])
      (blk [])),
    (forS (.nm 8) (seqI (lstM [(bnd (ret (.int 1)) negM), (rdSlot 3), (ret (.bool true)), (ret .none), (ret (.str "0"))])) (c_law_B3 call low))])
theorem e_is_whole (k : Nat) : runK tb (k + 1) "is_whole" = c_is_whole (runK tb k) := by kernel_rfl
theorem e_is_word (k : Nat) : runK tb (k + 1) "is_word" = c_is_word (runK tb k) := by kernel_rfl
theorem e_rise (k : Nat) : runK tb (k + 1) "rise" = c_rise (runK tb k) := by kernel_rfl
theorem e_are_folk (k : Nat) : runK tb (k + 1) "are_folk" = c_are_folk (runK tb k) := by kernel_rfl
theorem e_need_folk (k : Nat) : runK tb (k + 1) "need_folk" = c_need_folk (runK tb k) := by kernel_rfl
theorem e_is_name (k : Nat) : runK tb (k + 1) "is_name" = c_is_name (runK tb k) := by kernel_rfl
theorem e_is_event (k : Nat) : runK tb (k + 1) "is_event" = c_is_event (runK tb k) := by kernel_rfl
theorem e_is_good_day (k : Nat) : runK tb (k + 1) "is_good_day" = c_is_good_day (runK tb k) := by kernel_rfl
theorem e_need_day (k : Nat) : runK tb (k + 1) "need_day" = c_need_day (runK tb k) := by kernel_rfl
theorem e_next_events (k : Nat) : runK tb (k + 1) "next_events" = c_next_events (runK tb k) := by kernel_rfl
theorem e_every_day (k : Nat) : runK tb (k + 1) "every_day" = c_every_day (runK tb k) := by kernel_rfl
theorem e_all_days (k : Nat) : runK tb (k + 1) "all_days" = c_all_days (runK tb k) := by kernel_rfl
theorem e_ways_on (k : Nat) : runK tb (k + 1) "ways_on" = c_ways_on (runK tb k) := by kernel_rfl
theorem e_how_many_days (k : Nat) : runK tb (k + 1) "how_many_days" = c_how_many_days (runK tb k) := by kernel_rfl
theorem e_behind (k : Nat) : runK tb (k + 1) "behind" = c_behind (runK tb k) := by kernel_rfl
theorem e_day_at (k : Nat) : runK tb (k + 1) "day_at" = c_day_at (runK tb k) := by kernel_rfl
theorem e_number_of (k : Nat) : runK tb (k + 1) "number_of" = c_number_of (runK tb k) := by kernel_rfl
theorem e_law_drawn (k : Nat) : runK tb (k + 1) "_law_drawn" = c_law_drawn (runK tb k) := by kernel_rfl
theorem e_law_roll (k : Nat) : runK tb (k + 1) "_law_roll" = c_law_roll (runK tb k) := by kernel_rfl
theorem e_law_any_folk (k : Nat) : runK tb (k + 1) "_law_any_folk" = c_law_any_folk (runK tb k) := by kernel_rfl
theorem e_law_any_day (k : Nat) : runK tb (k + 1) "_law_any_day" = c_law_any_day (runK tb k) := by kernel_rfl
theorem e_law_all_days (k : Nat) : runK tb (k + 1) "_law_all_days" = c_law_all_days (runK tb k) := by kernel_rfl
end TD

set_option Elab.async false
set_option maxRecDepth 100000
set_option linter.all false
namespace TD
open PySem
def manyIn (es : Day) : Int := 2 * ((es.filter (·.1)).length : Nat) - (es.length : Nat)
theorem r_is_whole (k : Nat) (i lo hi : Int) : runK tb (k + 1) "is_whole" [.val (.int i), .val (.int lo), .val (.int hi)] = .ok (.bool (decide (lo ≤ i) && decide (i ≤ hi))) [.val (.int i), .val (.int lo), .val (.int hi)] := by
  rw [e_is_whole]; unfold c_is_whole defC; simp! only [show isiD "int" (.int i) = some true from rfl, show isiD "bool" (.int i) = some false from rfl]
  by_cases h : lo ≤ i
  · simp! only [h, decide_true]
    simp [ended, endOk, outs, outS]
  · simp [h, ret, Res.andThen, flThen, ended, endOk, outs, outS]
theorem r_is_name (n : Nms) (k : Nat) (fs : List Nat) (i : Nat) : runK tb (k + 1) "is_name" [.val (nsT n fs), .val (nmD n i)] = .ok (.bool (decide (i ∈ fs))) [.val (nsT n fs), .val (nmD n i)] := by
  rw [e_is_name]; unfold c_is_name defC; simp! only []
  rfl
theorem r_is_event (n : Nms) (k : Nat) (fs : List Nat) (e : Ev) : runK tb (k + 2) "is_event" [.val (nsT n fs), .val (evD n e)] = .ok (.bool (decide (e.2 ∈ fs))) [.val (nsT n fs), .val (evD n e)] := by
  rw [e_is_event]; unfold c_is_event defC; simp! only [r_is_name, decide_true]
  rfl

theorem d_one (m : Nat) : decide (((m : Nat) : Int) = 1) = (m == 1) := by
  by_cases q : m = 1
  · subst q; rfl
  · rw [decide_eq_false (by omega)]; symm; exact beq_eq_false_iff_ne.mpr q
def goodF (es : Day) (f : Nat) : Bool := cnt (true, f) es == 1 && cnt (false, f) es == 1 && (match idx (true, f) es, idx (false, f) es with
  | some i, some j => !decide (j < i)
  | _, _ => false)
def good (fs : List Nat) (es : Day) : Bool := decide (es.length = 2 * fs.length) && es.all (fun e => decide (e.2 ∈ fs)) && fs.all (goodF es)
theorem idx_some {e : Ev} {es : Day} (h : cnt e es = 1) : ∃ i, idx e es = some i := by
  unfold idx
  cases q : es.findIdx? fun z => decide (z = e) with
  | some i => exact ⟨i, rfl⟩
  | none =>
    rw [List.findIdx?_eq_none_iff] at q
    have : cnt e es = 0 := by
      unfold cnt
      rw [List.countP_eq_zero]
      intro a ha
      have := q a ha
      simpa using this
    omega
theorem r_is_good_day (n : Nms) (k : Nat) (fs : List Nat) (es : Day) : runK tb (k + 3) "is_good_day" [.val (nsT n fs), .val (dayD n es)] = .ok (.bool (good fs es)) [.val (nsT n fs), .val (dayD n es)] := by
  have h : c_is_good_day_C1 (runK tb (k + 2)) [.val (nsT n fs), .val (dayD n es), .non, .non] = .ok (boolsL (es.map fun e => decide (e.2 ∈ fs))) [.val (nsT n fs), .val (dayD n es), .non, .non] := by
    refine (compM_map (es := es) (enc := evD n) (p := fun _ => true) (f := fun e => .bool (decide (e.2 ∈ fs))) (env1 := fun e => [.val (nsT n fs), .val (dayD n es), .val (evD n e), .non]) rfl rfl rfl (fun a _ => rfl) (fun a _ => rfl) (fun a _ _ => ?_) (fun a _ => rfl)).trans ?_
    · simp! only [r_is_event]
    · rw [List.filter_eq_self.mpr fun _ _ => rfl]
      unfold boolsL
      rw [List.map_map]
      rfl
  obtain ⟨e, he, P⟩ := forL_all (enc := nmD n) (asg := asgP 3 (.nm 2)) (body := c_is_good_day_B1 (runK tb (k + 2))) (goodF es) (.bool false) (fun e => ∃ s, (s = .non ∨ ∃ d, s = .val d) ∧ e = [.val (nsT n fs), .val (dayD n es), s, .non]) fs [.val (nsT n fs), .val (dayD n es), .non, .non] (fun a _ e ⟨s, hs, he⟩ => by
    subst he
    refine ⟨[.val (nsT n fs), .val (dayD n es), .val (nmD n a), .non], [.val (nsT n fs), .val (dayD n es), .val (nmD n a), .non], ?_, ?_, ⟨_, .inr ⟨_, rfl⟩, rfl⟩⟩
    · rcases hs with rfl | ⟨d, rfl⟩ <;> simp! only []
    · unfold c_is_good_day_B1 goodF
      have d1 : ∀ m : Nat, decide (((m : Nat) : Int) = 1) = (m == 1) := d_one
      simp! only [d1]
      cases h1 : cnt (true, a) es == 1 with
      | false => simp! only []
      | true =>
        simp! only [d1]
        cases h2 : cnt (false, a) es == 1 with
        | false => simp! only []
        | true =>
          obtain ⟨i, hi⟩ := idx_some (eq_of_beq h1)
          obtain ⟨j, hj⟩ := idx_some (eq_of_beq h2)
          simp! only [hi, hj]
          by_cases h3 : j < i
          · have h3' : decide (((j : Nat) : Int) < (i : Nat)) = true := decide_eq_true (by omega)
            simp! only [h3', h3, decide_true]
          · have h3' : decide (((j : Nat) : Int) < (i : Nat)) = false := decide_eq_false (by omega)
            simp! only [h3', h3, decide_false]) ⟨_, .inl rfl, rfl⟩
  have hA : allD [boolsL (es.map fun e => decide (e.2 ∈ fs))] = some (.bool (es.all fun e => decide (e.2 ∈ fs))) := by
    show (boolsOf ((es.map fun e => decide (e.2 ∈ fs)).map .bool)).map _ = _
    rw [boolsOf_map]
    simp
  have d1 : decide (((es.length : Nat) : Int) = 2 * (fs.length : Nat)) = decide (es.length = 2 * fs.length) := by
    by_cases q : es.length = 2 * fs.length
    · rw [decide_eq_true q, decide_eq_true (by omega)]
    · rw [decide_eq_false q, decide_eq_false (by omega)]
  obtain ⟨s, hs, rfl⟩ := P
  rw [e_is_good_day]; unfold c_is_good_day defC; simp! only [h, decide_true, d1]
  unfold good
  cases h1 : decide (es.length = 2 * fs.length) with
  | false => simp! only []; rfl
  | true =>
    simp! only [h, hA]
    cases h2 : es.all fun e => decide (e.2 ∈ fs) with
    | false => simp! only []; rfl
    | true =>
      simp! only [he]
      cases h3 : fs.all (goodF es) with
      | false => simp! only []; rfl
      | true => simp! only []; rfl

def Vn (s : Sl) : Prop := s = .non ∨ ∃ d, s = .val d
theorem Vn.v (d : D) : Vn (.val d) := .inr ⟨d, rfl⟩
theorem Vn.n : Vn .non := .inl rfl
def FolkOk (n : Nms) (fs : List Nat) : Prop := ∀ k, runK tb (k + 4) "need_folk" [.val (nsT n fs)] = .ok .none [.val (nsT n fs)]
theorem r_need_day {n : Nms} {fs : List Nat} {es : Day} (F : FolkOk n fs) (g : good fs es = true) (k : Nat) : runK tb (k + 5) "need_day" [.val (nsT n fs), .val (dayD n es)] = .ok .none [.val (nsT n fs), .val (dayD n es)] := by
  rw [e_need_day]; unfold c_need_day defC; simp! only [F k, r_is_good_day n (k + 1), g]
  rfl
def whoStep (here : List Nat) (e : Ev) : Option (List Nat) := if e.1 then some (here ++ [e.2]) else (here.findIdx? fun i => decide (i = e.2)).map fun j => here.eraseIdx j
def who : List Nat → Day → Option (List Nat)
  | here, [] => some here
  | here, e :: r => match whoStep here e with
    | some h => who h r
    | none => none
theorem erase_mapF {α β : Type} (f : α → β) : ∀ (l : List α) (j : Nat), (l.map f).eraseIdx j = (l.eraseIdx j).map f
  | [], j => by simp
  | a :: r, 0 => by simp
  | a :: r, j + 1 => by
    have ih := erase_mapF f r j
    simp [ih]
def metB (es : Day) (a b : Nat) : Bool := match idx (true, a) es, idx (false, b) es, idx (true, b) es, idx (false, a) es with
  | some ca, some lb, some cb, some la => !decide (lb < ca) && decide (cb < la)
  | _, _, _, _ => false
def foundN (es : Day) (f : Nat) : Option Int := (idx (true, f) es).map fun i => manyIn (es.take i)
def stayN (es : Day) (f : Nat) : Option Int := (idx (false, f) es).map fun i => manyIn (es.take (i + 1))
def pairsP : List Nat → List (Nat × Nat)
  | [] => []
  | a :: r => r.map (fun b => (a, b)) ++ pairsP r
theorem cat_list {a b : List D} (h : a.length + b.length ≤ lim) : opD .Add (.list a) (.list b) = some (.list (a ++ b)) := if_pos h
end TD
namespace TD
open PySem
theorem Vn.fz {s : Sl} (h : Vn s) : frz s = s := by rcases h with rfl | ⟨d, rfl⟩ <;> rfl
theorem Vn.rs {s t : Sl} {r r' : En} (h : Vn s) : restore (s :: r) (t :: r') = (restore r r').map fun u => s :: u := by
  rcases h with rfl | ⟨d, rfl⟩
  · exact x_rsn
  · exact x_rsv
abbrev Item := Day × List Nat × List Nat
def itemD (n : Nms) (it : Item) : D := .tuple [dayD n it.1, nsT n it.2.1, nsT n it.2.2]
def goL (it : Item) (w : Nat) : Item := (it.1 ++ [(false, w)], it.2.1, it.2.2.filter fun i => !decide (i = w))
def goC (it : Item) (w : Nat) : Item := (it.1 ++ [(true, w)], it.2.1.filter fun i => !decide (i = w), sortN (it.2.2 ++ [w]))
def leaf (it : Item) : Bool := decide (it.2.1 = []) && decide (it.2.2 = [])
def evd : Nat → List Day → List Item → Option (List Day)
  | _, found, [] => some found
  | 0, _, _ :: _ => none
  | k + 1, found, it :: rest => evd k (if leaf it then found ++ [it.1] else found) (it.2.1.map (goC it) ++ (it.2.2.map (goL it) ++ rest))
def Sm (c : Nat) (it : Item) : Prop := it.1.length ≤ c ∧ it.2.1.length + it.2.2.length ≤ 4
theorem ins_len {α : Type} {le : α → α → Bool} (a : α) : ∀ l : List α, (ins le a l).length = l.length + 1
  | [] => rfl
  | b :: r => by
    unfold ins
    split
    · rfl
    · rw [List.length_cons, ins_len a r]; rfl
theorem isort_len {α : Type} {le : α → α → Bool} : ∀ l : List α, (isort le l).length = l.length
  | [] => rfl
  | a :: r => by rw [isort, ins_len, isort_len r]; rfl
theorem filter_lt {w : Nat} : ∀ {l : List Nat}, w ∈ l → (l.filter fun i => !decide (i = w)).length + 1 ≤ l.length
  | [], h => by cases h
  | a :: r, h => by
    by_cases e : a = w
    · subst e
      rw [List.filter_cons_of_neg (by simp), List.length_cons]
      have := List.length_filter_le (fun i => !decide (i = a)) r
      omega
    · rw [List.filter_cons_of_pos (by simp [e]), List.length_cons, List.length_cons]
      rcases List.mem_cons.mp h with h | h
      · exact absurd h.symm e
      · have := filter_lt h
        omega
theorem sm_goL {c : Nat} {it : Item} {w : Nat} (h : Sm c it) : Sm (c + 1) (goL it w) := by
  obtain ⟨h1, h2⟩ := h
  have := List.length_filter_le (fun i => !decide (i = w)) it.2.2
  refine ⟨by show (it.1 ++ [(false, w)]).length ≤ _; rw [List.length_append]; simp; omega, by show it.2.1.length + (it.2.2.filter fun i => !decide (i = w)).length ≤ 4; omega⟩
theorem sm_goC {c : Nat} {it : Item} {w : Nat} (h : Sm c it) (hw : w ∈ it.2.1) : Sm (c + 1) (goC it w) := by
  obtain ⟨h1, h2⟩ := h
  have := filter_lt hw
  refine ⟨by show (it.1 ++ [(true, w)]).length ≤ _; rw [List.length_append]; simp; omega, ?_⟩
  show (it.2.1.filter fun i => !decide (i = w)).length + (sortN (it.2.2 ++ [w])).length ≤ 4
  unfold sortN
  rw [isort_len, List.length_append]
  simp
  omega
theorem o_nenm (n : Nms) (i j : Nat) : cmpD .NotEq (nmD n i) (nmD n j) = some (!decide (i = j)) := by rw [cmp_ne (good_nm n i) (good_nm n j), nm_eqv]
theorem o_eqT0 (n : Nms) (l : List Nat) : cmpD .Eq (nsT n l) (.tuple []) = some (decide (l = [])) := by
  have : (PyData.tuple [] : D) = nsT n [] := rfl
  rw [this, cmp_eq (good_nsT n l) (good_nsT n []), nsT_eqv]
theorem cat_day {n : Nms} {a b : Day} (h : a.length + b.length ≤ lim) : opD .Add (dayD n a) (dayD n b) = some (dayD n (a ++ b)) := by
  unfold dayD
  rw [cat_list (by rw [List.length_map, List.length_map]; exact h), List.map_append]
theorem cat_nsT {n : Nms} {a b : List Nat} (h : a.length + b.length ≤ lim) : opD .Add (nsT n a) (nsT n b) = some (nsT n (a ++ b)) := by
  unfold nsT
  rw [show opD .Add (.tuple (a.map (nmD n))) (.tuple (b.map (nmD n))) = if (a.map (nmD n)).length + (b.map (nmD n)).length ≤ lim then some (.tuple (a.map (nmD n) ++ b.map (nmD n))) else none from rfl, if_pos (by rw [List.length_map, List.length_map]; exact h), List.map_append]
section
variable {n : Nms} {k : Nat}
theorem ed_C1 {s0 s1 s2 s3 s4 s7 : Sl} {here : List Nat} {w : Nat} : c_every_day_C1 (runK tb k) [s0, s1, s2, s3, s4, .val (nsT n here), .val (nmD n w), s7, .non, .non] = .ok (nsL n (here.filter fun i => !decide (i = w))) [s0, s1, s2, s3, s4, .val (nsT n here), .val (nmD n w), s7, .non, .non] := by
  refine compM_map (es := here) (enc := nmD n) (p := fun i => !decide (i = w)) (f := nmD n) (env1 := fun i => [s0, s1, s2, s3, s4, .val (nsT n here), .val (nmD n w), s7, .non, .val (nmD n i)]) rfl rfl rfl (fun a _ => rfl) (fun a _ => ?_) (fun a _ _ => rfl) (fun a _ => rfl)
  simp! only [o_nenm]
theorem ed_C2 {s0 s1 s2 s3 s5 s7 : Sl} {out : List Nat} {w : Nat} : c_every_day_C2 (runK tb k) [s0, s1, s2, s3, .val (nsT n out), s5, .val (nmD n w), s7, .non, .non] = .ok (nsL n (out.filter fun i => !decide (i = w))) [s0, s1, s2, s3, .val (nsT n out), s5, .val (nmD n w), s7, .non, .non] := by
  refine compM_map (es := out) (enc := nmD n) (p := fun i => !decide (i = w)) (f := nmD n) (env1 := fun i => [s0, s1, s2, s3, .val (nsT n out), s5, .val (nmD n w), s7, .non, .val (nmD n i)]) rfl rfl rfl (fun a _ => rfl) (fun a _ => ?_) (fun a _ _ => rfl) (fun a _ => rfl)
  simp! only [o_nenm]
theorem tup_ns (l : List Nat) : tupD [nsL n l] = some (nsT n l) := rfl
theorem ed_B1 {s0 s1 s7 : Sl} {work : List D} {it : Item} {w : Nat} (hw : work.length < lim) (hr : it.1.length + 1 ≤ lim) : c_every_day_B1 (runK tb k) [s0, s1, .own work, .val (dayD n it.1), .val (nsT n it.2.1), .val (nsT n it.2.2), .val (nmD n w), s7, .non, .non] =
    .ok .next [s0, s1, .own (work ++ [itemD n (goL it w)]), .val (dayD n it.1), .val (nsT n it.2.1), .val (nsT n it.2.2), .val (nmD n w), s7, .non, .non] := by
  have hc : opD .Add (dayD n it.1) (dayD n [(false, w)]) = some (dayD n (it.1 ++ [(false, w)])) := cat_day hr
  unfold c_every_day_B1
  simp! only [show PyData.list [evD n (false, w)] = dayD n [(false, w)] from rfl, hc, ed_C1, tup_ns, hw]
  rfl
theorem ed_B2 {s0 s1 s7 : Sl} {work : List D} {it : Item} {w : Nat} (hv : Vn s7) (hw : work.length < lim) (hr : it.1.length + 1 ≤ lim) (hh : it.2.2.length + 1 ≤ lim) : c_every_day_B2 (runK tb k) [s0, s1, .own work, .val (dayD n it.1), .val (nsT n it.2.1), .val (nsT n it.2.2), .val (nmD n w), s7, .non, .non] =
    .ok .next [s0, s1, .own (work ++ [itemD n (goC it w)]), .val (dayD n it.1), .val (nsT n it.2.1), .val (nsT n it.2.2), .val (nmD n w), .val (nsT n (it.2.1.filter fun i => !decide (i = w))), .non, .non] := by
  have hc : opD .Add (dayD n it.1) (dayD n [(true, w)]) = some (dayD n (it.1 ++ [(true, w)])) := cat_day hr
  have hd : opD .Add (nsT n it.2.2) (nsT n [w]) = some (nsT n (it.2.2 ++ [w])) := cat_nsT hh
  have hs : sortedD [nsT n (it.2.2 ++ [w])] = some (nsL n (sortN (it.2.2 ++ [w]))) := sort_ns n _
  unfold c_every_day_B2
  rcases hv with rfl | ⟨d, rfl⟩
  · simp! only [show PyData.list [evD n (true, w)] = dayD n [(true, w)] from rfl, show PyData.tuple [nmD n w] = nsT n [w] from rfl, hc, hd, hs, ed_C2, tup_ns, hw]
    rfl
  · simp! only [show PyData.list [evD n (true, w)] = dayD n [(true, w)] from rfl, show PyData.tuple [nmD n w] = nsT n [w] from rfl, hc, hd, hs, ed_C2, tup_ns, hw]
    rfl
theorem rv_ns (l : List Nat) : rvD (nsT n l) = some (nsT n l.reverse) := by
  unfold nsT
  rw [show rvD (.tuple (l.map (nmD n))) = some (.tuple (l.map (nmD n)).reverse) from rfl, List.map_reverse]
theorem ed_L1 {s0 s1 s7 : Sl} {it : Item} : ∀ (r : List Nat) (work : List D) (s6 : Sl), Vn s6 → work.length + r.length < lim → it.1.length + 1 ≤ lim → ∃ s6', Vn s6' ∧ forL (asgP 3 (.nm 6)) (c_every_day_B1 (runK tb k)) (r.map (nmD n)) [s0, s1, .own work, .val (dayD n it.1), .val (nsT n it.2.1), .val (nsT n it.2.2), s6, s7, .non, .non] =
    .ok .next [s0, s1, .own (work ++ r.map fun w => itemD n (goL it w)), .val (dayD n it.1), .val (nsT n it.2.1), .val (nsT n it.2.2), s6', s7, .non, .non]
  | [], work, s6, h6, hw, hr => ⟨s6, h6, by rw [List.map_nil, List.map_nil, List.append_nil]; rfl⟩
  | w :: r, work, s6, h6, hw, hr => by
    rw [List.length_cons] at hw
    obtain ⟨s6', h6', q⟩ := ed_L1 r (work ++ [itemD n (goL it w)]) (.val (nmD n w)) (.v _) (by rw [List.length_append]; simp; omega) hr
    refine ⟨s6', h6', ?_⟩
    have a1 : asgP 3 (.nm 6) (nmD n w) [s0, s1, .own work, .val (dayD n it.1), .val (nsT n it.2.1), .val (nsT n it.2.2), s6, s7, .non, .non] = .ok () [s0, s1, .own work, .val (dayD n it.1), .val (nsT n it.2.1), .val (nsT n it.2.2), .val (nmD n w), s7, .non, .non] := by
      rcases h6 with rfl | ⟨d, rfl⟩ <;> rfl
    rw [List.map_cons, forL, bnd_of a1, bnd_of (ed_B1 (by omega) hr)]
    show forL _ _ _ _ = _
    rw [q, List.append_assoc]
    rfl
theorem ed_L2 {s0 s1 : Sl} {it : Item} : ∀ (r : List Nat) (work : List D) (s6 s7 : Sl), Vn s6 → Vn s7 → work.length + r.length < lim → it.1.length + 1 ≤ lim → it.2.2.length + 1 ≤ lim → ∃ s6' s7', Vn s6' ∧ Vn s7' ∧ forL (asgP 3 (.nm 6)) (c_every_day_B2 (runK tb k)) (r.map (nmD n)) [s0, s1, .own work, .val (dayD n it.1), .val (nsT n it.2.1), .val (nsT n it.2.2), s6, s7, .non, .non] =
    .ok .next [s0, s1, .own (work ++ r.map fun w => itemD n (goC it w)), .val (dayD n it.1), .val (nsT n it.2.1), .val (nsT n it.2.2), s6', s7', .non, .non]
  | [], work, s6, s7, h6, h7, hw, hr, hh => ⟨s6, s7, h6, h7, by rw [List.map_nil, List.map_nil, List.append_nil]; rfl⟩
  | w :: r, work, s6, s7, h6, h7, hw, hr, hh => by
    rw [List.length_cons] at hw
    obtain ⟨s6', s7', h6', h7', q⟩ := ed_L2 r (work ++ [itemD n (goC it w)]) (.val (nmD n w)) (.val (nsT n (it.2.1.filter fun i => !decide (i = w)))) (.v _) (.v _) (by rw [List.length_append]; simp; omega) hr hh
    refine ⟨s6', s7', h6', h7', ?_⟩
    have a1 : asgP 3 (.nm 6) (nmD n w) [s0, s1, .own work, .val (dayD n it.1), .val (nsT n it.2.1), .val (nsT n it.2.2), s6, s7, .non, .non] = .ok () [s0, s1, .own work, .val (dayD n it.1), .val (nsT n it.2.1), .val (nsT n it.2.2), .val (nmD n w), s7, .non, .non] := by
      rcases h6 with rfl | ⟨d, rfl⟩ <;> rfl
    rw [List.map_cons, forL, bnd_of a1, bnd_of (ed_B2 h7 (by omega) hr hh)]
    show forL _ _ _ _ = _
    rw [q, List.append_assoc]
    rfl
def edEnv (n : Nms) (fs : List Nat) (found : List Day) (wk : List Item) (s3 s4 s5 s6 s7 : Sl) : En := [.val (nsT n fs), .own (found.map (dayD n)), .own (wk.reverse.map (itemD n)), s3, s4, s5, s6, s7, .non, .non]
theorem ed_B3 {fs : List Nat} {found : List Day} {it : Item} {rest : List Item} {s3 s4 s5 s6 s7 : Sl} (h3 : Vn s3) (h4 : Vn s4) (h5 : Vn s5) (h6 : Vn s6) (h7 : Vn s7) (hf : found.length < 50000) (hw : rest.length < 95000) (hi : Sm 50000 it) :
    ∃ t3 t4 t5 t6 t7, Vn t3 ∧ Vn t4 ∧ Vn t5 ∧ Vn t6 ∧ Vn t7 ∧ c_every_day_B3 (runK tb k) (edEnv n fs found (it :: rest) s3 s4 s5 s6 s7) = .ok .next (edEnv n fs (if leaf it then found ++ [it.1] else found) (it.2.1.map (goC it) ++ (it.2.2.map (goL it) ++ rest)) t3 t4 t5 t6 t7) := by
  obtain ⟨hi1, hi2⟩ := hi
  have lw : (rest.reverse.map (itemD n)).length = rest.length := by simp
  have lf : (found.map (dayD n)).length < lim := by rw [List.length_map]; unfold lim; omega
  have L : ∀ fd : List D, ∃ s6' s7', Vn s6' ∧ Vn s7' ∧ ∃ s6'', Vn s6'' ∧ forL (asgP 3 (.nm 6)) (c_every_day_B1 (runK tb k)) (it.2.2.reverse.map (nmD n)) [.val (nsT n fs), .own fd, .own (rest.reverse.map (itemD n)), .val (dayD n it.1), .val (nsT n it.2.1), .val (nsT n it.2.2), s6, s7, .non, .non] =
      .ok .next [.val (nsT n fs), .own fd, .own (rest.reverse.map (itemD n) ++ it.2.2.reverse.map fun w => itemD n (goL it w)), .val (dayD n it.1), .val (nsT n it.2.1), .val (nsT n it.2.2), s6'', s7, .non, .non] ∧
      forL (asgP 3 (.nm 6)) (c_every_day_B2 (runK tb k)) (it.2.1.reverse.map (nmD n)) [.val (nsT n fs), .own fd, .own (rest.reverse.map (itemD n) ++ it.2.2.reverse.map fun w => itemD n (goL it w)), .val (dayD n it.1), .val (nsT n it.2.1), .val (nsT n it.2.2), s6'', s7, .non, .non] =
      .ok .next [.val (nsT n fs), .own fd, .own (rest.reverse.map (itemD n) ++ (it.2.2.reverse.map fun w => itemD n (goL it w)) ++ it.2.1.reverse.map fun w => itemD n (goC it w)), .val (dayD n it.1), .val (nsT n it.2.1), .val (nsT n it.2.2), s6', s7', .non, .non] := fun fd => by
    obtain ⟨s6'', h6'', q1⟩ := ed_L1 (n := n) (k := k) (s0 := .val (nsT n fs)) (s1 := .own fd) (s7 := s7) (it := it) it.2.2.reverse (rest.reverse.map (itemD n)) s6 h6 (by rw [lw, List.length_reverse]; unfold lim; omega) (by unfold lim; omega)
    obtain ⟨s6', s7', h6', h7', q2⟩ := ed_L2 (n := n) (k := k) (s0 := .val (nsT n fs)) (s1 := .own fd) (it := it) it.2.1.reverse (rest.reverse.map (itemD n) ++ it.2.2.reverse.map fun w => itemD n (goL it w)) s6'' s7 h6'' h7 (by rw [List.length_append, lw, List.length_map, List.length_reverse, List.length_reverse]; unfold lim; omega) (by unfold lim; omega) (by unfold lim; omega)
    exact ⟨s6', s7', h6', h7', s6'', h6'', q1, q2⟩
  have fin : ∀ (fd : List Day) (s6' s7' : Sl), [Sl.val (nsT n fs), .own (fd.map (dayD n)), .own (rest.reverse.map (itemD n) ++ (it.2.2.reverse.map fun w => itemD n (goL it w)) ++ it.2.1.reverse.map fun w => itemD n (goC it w)), .val (dayD n it.1), .val (nsT n it.2.1), .val (nsT n it.2.2), s6', s7', .non, .non] =
      edEnv n fs fd (it.2.1.map (goC it) ++ (it.2.2.map (goL it) ++ rest)) (.val (dayD n it.1)) (.val (nsT n it.2.1)) (.val (nsT n it.2.2)) s6' s7' := fun fd s6' s7' => by
    unfold edEnv
    simp [List.map_reverse, List.map_append, List.reverse_append, List.map_map, Function.comp_def]
  unfold edEnv c_every_day_B3
  rw [List.reverse_cons, List.map_append, List.map_cons, List.map_nil]
  have it3 : itemD n it = .tuple [dayD n it.1, nsT n it.2.1, nsT n it.2.2] := rfl
  have hdec : (decide (it.2.1 = []) && decide (it.2.2 = [])) = leaf it := rfl
  cases hl : leaf it with
  | true =>
    have hA : decide (it.2.1 = []) = true ∧ decide (it.2.2 = []) = true := by rw [← hdec, Bool.and_eq_true] at hl; exact hl
    obtain ⟨s6', s7', h6', h7', s6'', h6'', q1, q2⟩ := L (found.map (dayD n) ++ [dayD n it.1])
    refine ⟨_, _, _, _, _, .v (dayD n it.1), .v (nsT n it.2.1), .v (nsT n it.2.2), h6', h7', ?_⟩
    rw [if_pos rfl]
    have fin' := fin (found ++ [it.1]) s6' s7'
    unfold edEnv at fin'
    rw [← fin', List.map_append, List.map_cons, List.map_nil]
    rcases h3 with rfl | ⟨d3, rfl⟩ <;> rcases h4 with rfl | ⟨d4, rfl⟩ <;> rcases h5 with rfl | ⟨d5, rfl⟩ <;> simp! only [it3, o_eqT0, hA.1, hA.2, lf, rv_ns, q1, q2, h6.fz, h7.fz, h6.rs, h7.rs]
  | false =>
    obtain ⟨s6', s7', h6', h7', s6'', h6'', q1, q2⟩ := L (found.map (dayD n))
    refine ⟨_, _, _, _, _, .v (dayD n it.1), .v (nsT n it.2.1), .v (nsT n it.2.2), h6', h7', ?_⟩
    rw [if_neg (by simp)]
    have fin' := fin found s6' s7'
    unfold edEnv at fin'
    rw [← fin']
    cases hA : decide (it.2.1 = []) with
    | false => rcases h3 with rfl | ⟨d3, rfl⟩ <;> rcases h4 with rfl | ⟨d4, rfl⟩ <;> rcases h5 with rfl | ⟨d5, rfl⟩ <;> simp! only [it3, o_eqT0, hA, lf, rv_ns, q1, q2, h6.fz, h7.fz, h6.rs, h7.rs]
    | true =>
      have hB : decide (it.2.2 = []) = false := by rw [← hdec, hA] at hl; simpa using hl
      rcases h3 with rfl | ⟨d3, rfl⟩ <;> rcases h4 with rfl | ⟨d4, rfl⟩ <;> rcases h5 with rfl | ⟨d5, rfl⟩ <;> simp! only [it3, o_eqT0, hA, hB, lf, rv_ns, q1, q2, h6.fz, h7.fz, h6.rs, h7.rs]
theorem good_item (it : Item) : Good 3 (itemD n it) := Good.tuple fun d hd => by
  simp only [List.mem_cons, List.not_mem_nil, or_false] at hd
  rcases hd with h | h | h <;> subst h
  · exact good_day n _
  · exact (good_nsT n _).mono (by decide)
  · exact (good_nsT n _).mono (by decide)
theorem work_test {fs : List Nat} {found : List Day} {wk : List Item} {s3 s4 s5 s6 s7 : Sl} (h3 : Vn s3) (h4 : Vn s4) (h5 : Vn s5) (h6 : Vn s6) (h7 : Vn s7) :
    borrow (cmpB .NotEq (rdSlot 2) (lstM [])) (edEnv n fs found wk s3 s4 s5 s6 s7) = .ok (!decide (wk = [])) (edEnv n fs found wk s3 s4 s5 s6 s7) := by
  have hc : cmpD .NotEq (.list (wk.reverse.map (itemD n))) (.list []) = some (!decide (wk = [])) := by
    rw [cmp_ne (Good.list (Good.map good_item wk.reverse)) (Good.list (k := 0) (fun d hd => by cases hd))]
    cases wk with
    | nil => rfl
    | cons a r =>
      rw [List.reverse_cons, List.map_append]
      cases r.reverse.map (itemD n) <;> rfl
  unfold edEnv
  rcases h3 with rfl | ⟨d3, rfl⟩ <;> rcases h4 with rfl | ⟨d4, rfl⟩ <;> rcases h5 with rfl | ⟨d5, rfl⟩ <;> rcases h6 with rfl | ⟨d6, rfl⟩ <;> rcases h7 with rfl | ⟨d7, rfl⟩ <;> simp! only [hc]
theorem ed_while {fs : List Nat} {res : List Day} : ∀ (fuel c : Nat) (found : List Day) (wk : List Item) (s3 s4 s5 s6 s7 : Sl), Vn s3 → Vn s4 → Vn s5 → Vn s6 → Vn s7 → evd fuel found wk = some res → c + fuel ≤ 30000 → found.length ≤ c → wk.length ≤ 1 + 3 * c → (∀ it ∈ wk, Sm c it) →
    ∃ t3 t4 t5 t6 t7, whileL (borrow (cmpB .NotEq (rdSlot 2) (lstM []))) (c_every_day_B3 (runK tb k)) (fuel + 1) (edEnv n fs found wk s3 s4 s5 s6 s7) = .ok .next (edEnv n fs res [] t3 t4 t5 t6 t7)
  | fuel, c, found, [], s3, s4, s5, s6, s7, h3, h4, h5, h6, h7, he, hc, hf, hw, hi => by
    have e : found = res := by cases fuel <;> exact Option.some.inj he
    subst e
    refine ⟨s3, s4, s5, s6, s7, ?_⟩
    rw [whileL, bnd_of (work_test h3 h4 h5 h6 h7)]
    rfl
  | 0, c, found, it :: rest, s3, s4, s5, s6, s7, h3, h4, h5, h6, h7, he, hc, hf, hw, hi => by cases he
  | fuel + 1, c, found, it :: rest, s3, s4, s5, s6, s7, h3, h4, h5, h6, h7, he, hc, hf, hw, hi => by
    have hit := hi it (by simp)
    rw [List.length_cons] at hw
    obtain ⟨t3, t4, t5, t6, t7, g3, g4, g5, g6, g7, q⟩ := ed_B3 (n := n) (k := k) (fs := fs) (found := found) (rest := rest) h3 h4 h5 h6 h7 (by omega) (by omega) (⟨Nat.le_trans hit.1 (by omega), hit.2⟩ : Sm 50000 it)
    have ih := ed_while (fs := fs) fuel (c + 1) (if leaf it then found ++ [it.1] else found) (it.2.1.map (goC it) ++ (it.2.2.map (goL it) ++ rest)) t3 t4 t5 t6 t7 g3 g4 g5 g6 g7 he (by omega) (by
      split
      · rw [List.length_append]; show found.length + 1 ≤ c + 1; omega
      · omega) (by
      rw [List.length_append, List.length_append, List.length_map, List.length_map]
      have := hit.2
      omega) (fun jt hj => by
      rcases List.mem_append.mp hj with hj | hj
      · obtain ⟨w, hw', rfl⟩ := List.mem_map.mp hj
        exact sm_goC hit hw'
      · rcases List.mem_append.mp hj with hj | hj
        · obtain ⟨w, hw', rfl⟩ := List.mem_map.mp hj
          exact sm_goL hit
        · have := hi jt (by simp [hj])
          exact ⟨Nat.le_succ_of_le this.1, this.2⟩)
    obtain ⟨u3, u4, u5, u6, u7, q2⟩ := ih
    refine ⟨u3, u4, u5, u6, u7, ?_⟩
    rw [whileL, bnd_of (work_test h3 h4 h5 h6 h7), if_pos (by simp), bnd_of q]
    exact q2
def daysD (n : Nms) (l : List Day) : D := .list (l.map (dayD n))
theorem r_every_day {fs : List Nat} {res : List Day} (h : evd 29999 [] [([], fs, [])] = some res) (hf : fs.length ≤ 4) : runK tb (k + 1) "every_day" [.val (nsT n fs)] = .ok (daysD n res) [.val (nsT n fs)] := by
  obtain ⟨s3, s4, s5, s6, s7, q⟩ := ed_while (n := n) (k := k) (fs := fs) (res := res) 29999 0 [] [([], fs, [])] .non .non .non .non .non .n .n .n .n .n h (by decide) (Nat.le_refl _) (by simp) (fun it hi => by
    simp only [List.mem_singleton] at hi
    subst hi
    exact ⟨Nat.le_refl _, by simpa using hf⟩)
  have q' : whlS (cmpB .NotEq (rdSlot 2) (lstM [])) (c_every_day_B3 (runK tb k)) [.val (nsT n fs), .own [], .own [.tuple [.list [], nsT n fs, .tuple []]], .non, .non, .non, .non, .non, .non, .non] = .ok .next (edEnv n fs res [] s3 s4 s5 s6 s7) := q
  unfold edEnv at q'
  rw [e_every_day]; unfold c_every_day defC; simp! only [q']
  rfl
end
end TD
namespace TD
open PySem
def evr : Nat → List Day → List Item → Option (List Day)
  | _, acc, [] => some acc
  | 0, _, _ :: _ => none
  | k + 1, acc, it :: rest => evr k (if leaf it then it.1 :: acc else acc) (it.2.1.map (goC it) ++ (it.2.2.map (goL it) ++ rest))
theorem evr_evd : ∀ (k : Nat) (acc : List Day) (wk : List Item) (r : List Day), evr k acc wk = some r → evd k acc.reverse wk = some r.reverse
  | k, acc, [], r, h => by
    have : acc = r := by cases k <;> exact Option.some.inj h
    subst this
    cases k <;> rfl
  | 0, _, _ :: _, _, h => by cases h
  | k + 1, acc, it :: rest, r, h => by
    have ih := evr_evd k (if leaf it then it.1 :: acc else acc) _ r h
    show evd k (if leaf it then acc.reverse ++ [it.1] else acc.reverse) _ = _
    rw [← ih]
    congr 1
    split <;> simp
def daysR (fs : List Nat) : List Day := (evr 29999 [] [([], fs, [])]).getD []
def daysOf (fs : List Nat) : List Day := (daysR fs).reverse
theorem evd_days {fs : List Nat} (h : (evr 29999 [] [([], fs, [])]).isSome = true) : evd 29999 [] [([], fs, [])] = some (daysOf fs) := by
  obtain ⟨r, hr⟩ := Option.isSome_iff_exists.mp h
  have : daysR fs = r := by unfold daysR; rw [hr]; rfl
  unfold daysOf
  rw [this]
  exact evr_evd 29999 [] _ r hr
theorem ev2 : (evr 29999 [] [([], [0, 1], [])]).isSome = true := by kernel_rfl
theorem ev3 : (evr 29999 [] [([], [0, 1, 2], [])]).isSome = true := by kernel_rfl
theorem ev4 : (evr 29999 [] [([], [0, 1, 2, 3], [])]).isSome = true := by kernel_rfl
theorem len4 : (daysR [0, 1, 2, 3]).length = 2520 := by kernel_rfl
end TD
namespace TD
open PySem
theorem o_mod (i j : Int) (h : 0 < j) : opD .Mod (.int i) (.int j) = some (.int (i % j)) := if_pos h
theorem o_div (i j : Int) (h : 0 < j) (h2 : j.natAbs.log2 < 9000) : opD .FloorDiv (.int i) (.int j) = some (.int (i / j)) := if_pos ⟨h, h2⟩
theorem r_law_drawn (k : Nat) (c m : Int) : ∃ r : Int, runK tb (k + 1) "_law_drawn" [.val (.int c), .val (.int m)] = .ok (.int r) [.val (.int c), .val (.int m)] := by
  have m1 : ∀ i : Int, opD .Mult (.int i) (.int 6364136223846793005) = some (.int (i * 6364136223846793005)) := fun i => mul_r _ _ (by decide)
  have m2 : ∀ i : Int, opD .Mult (.int i) (.int 1442695040888963407) = some (.int (i * 1442695040888963407)) := fun i => mul_r _ _ (by decide)
  have p1 : ∀ i : Int, opD .Mod (.int i) (.int 340282366920938463463374607431768211507) = some (.int (i % 340282366920938463463374607431768211507)) := fun i => o_mod _ _ (by decide)
  have p2 : ∀ i : Int, opD .Mod (.int i) (.int 340282366920938463463374607431768211297) = some (.int (i % 340282366920938463463374607431768211297)) := fun i => o_mod _ _ (by decide)
  have p3 : ∀ i : Int, opD .Mod (.int i) (.int 18446744073709551557) = some (.int (i % 18446744073709551557)) := fun i => o_mod _ _ (by decide)
  have p4 : ∀ i : Int, opD .FloorDiv (.int i) (.int 18446744073709551557) = some (.int (i / 18446744073709551557)) := fun i => o_div _ _ (by decide) (by decide)
  have big : ∀ i j : Int, 0 ≤ i → i < 2 ^ 130 → 0 ≤ j → j < 2 ^ 130 → opD .Mult (.int i) (.int j) = some (.int (i * j)) := fun i j h1 h2 h3 h4 => by
    show (if mulOk i j then _ else _) = _
    have l : ∀ z : Int, 0 ≤ z → z < 2 ^ 130 → z.natAbs.log2 < 130 := fun z a b => by
      by_cases e : z.natAbs = 0
      · rw [e]; decide
      · rw [Nat.log2_lt e]
        omega
    have : mulOk i j = true := by
      unfold mulOk
      have := l i h1 h2
      have := l j h3 h4
      rw [decide_eq_true (by omega : i.natAbs.log2 + j.natAbs.log2 < 1000000)]
      simp
    rw [if_pos this]
  generalize hx : (c * 6364136223846793005 + (m + 1) * 1442695040888963407) % 340282366920938463463374607431768211507 = x
  have x1 : 0 ≤ x ∧ x < 340282366920938463463374607431768211507 := by rw [← hx]; exact ⟨Int.emod_nonneg _ (by decide), Int.emod_lt_of_pos _ (by decide)⟩
  have b1 : opD .Mult (.int x) (.int x) = some (.int (x * x)) := big x x x1.1 (by omega) x1.1 (by omega)
  generalize hy : x * x % 340282366920938463463374607431768211297 = y
  have y1 : 0 ≤ y ∧ y < 340282366920938463463374607431768211297 := by rw [← hy]; exact ⟨Int.emod_nonneg _ (by decide), Int.emod_lt_of_pos _ (by decide)⟩
  generalize hu : y % 18446744073709551557 + 1 = u
  have u1 : 0 < u ∧ u ≤ 18446744073709551557 := by
    have := Int.emod_nonneg y (b := 18446744073709551557) (by decide)
    have := Int.emod_lt_of_pos y (b := 18446744073709551557) (by decide)
    omega
  generalize hv : y / 18446744073709551557 + 1 = v
  have v1 : 0 < v ∧ v ≤ 18446744073709551700 := by omega
  have b2 : opD .Mult (.int u) (.int v) = some (.int (u * v)) := big u v (by omega) (by omega) (by omega) (by omega)
  have w1 : 0 ≤ u * v ∧ u * v < 2 ^ 130 := by
    refine ⟨Int.mul_nonneg (by omega) (by omega), ?_⟩
    have : u * v ≤ 18446744073709551557 * 18446744073709551700 := Int.mul_le_mul u1.2 v1.2 (by omega) (by decide)
    omega
  have b3 : opD .Mult (.int (u * v)) (.int y) = some (.int (u * v * y)) := big _ _ w1.1 w1.2 y1.1 (by omega)
  refine ⟨u * v * y % 340282366920938463463374607431768211507, ?_⟩
  rw [e_law_drawn]; unfold c_law_drawn defC; simp! only [m1, m2, p1, p2, p3, p4, hx, b1, hy, hu, hv, b2, b3]
  rfl
def itmV (j : Nat) (I : M D) (d : D) : M Fl := itmS j I (ret d)
theorem r_law_roll (k : Nat) (c m q : Int) (hq : 0 < q) (hq2 : q ≤ 1000000) : ∃ r c' m' : Int, 0 ≤ r ∧ r < q ∧ runK tb (k + 2) "_law_roll" [.par [.int c, .int m], .val (.int q)] = .ok (.int r) [.par [.int c', .int m'], .val (.int q)] := by
  have lg : q.natAbs.log2 < 9000 := by
    rw [Nat.log2_lt (by omega)]
    have : q.natAbs < 2 ^ 20 := by omega
    exact Nat.lt_of_lt_of_le this (Nat.pow_le_pow_right (by decide) (by decide))
  have e1 : opD .Mod (.int c) (.int q) = some (.int (c % q)) := o_mod _ _ hq
  have e2 : opD .FloorDiv (.int c) (.int q) = some (.int (c / q)) := o_div _ _ hq lg
  have e3 : opD .Pow (.int 10) (.int 18) = some (.int 1000000000000000000) := by kernel_rfl
  have i0 : ∀ (c m : Int) (A : M D) (r : En), ixN 0 A (ret (.int 0)) (.par [.int c, .int m] :: r) = .ok (.int c) (.par [.int c, .int m] :: r) := fun c m A r => x_ixp0 A 0 rfl
  have i1 : ∀ (c m : Int) (A : M D) (r : En), ixN 0 A (ret (.int 1)) (.par [.int c, .int m] :: r) = .ok (.int m) (.par [.int c, .int m] :: r) := fun c m A r => x_ixp0 A 1 rfl
  have j0 : ∀ (c m d : Int) (r : En), (itmV 0 (ret (.int 0)) (.int d)) (.par [.int c, .int m] :: r) = .ok .next (.par [.int d, .int m] :: r) := fun _ _ _ _ => rfl
  have k0 : ∀ (A : M D) (I : M D) (e : En), itmS 0 I A e = (A e).andThen (itmV 0 I) := fun A I e => by
    unfold itmV itmS bnd Res.andThen
    cases A e <;> rfl
  have j1 : ∀ (c m d : Int) (r : En), (itmV 0 (ret (.int 1)) (.int d)) (.par [.int c, .int m] :: r) = .ok .next (.par [.int c, .int d] :: r) := fun _ _ _ _ => rfl
  obtain ⟨z, hz⟩ := r_law_drawn k c (m + 1)
  have e4 : opD .FloorDiv (.int z) (.int 8) = some (.int (z / 8)) := o_div _ _ (by decide) (by decide)
  have e5 : opD .Mod (.int (z / 8)) (.int q) = some (.int (z / 8 % q)) := o_mod _ _ hq
  have sc : ([PyData.int c, .int m] : List D).all scal = true := rfl
  by_cases h : 1000000000000000000 ≤ c
  · refine ⟨c % q, c / q, m, Int.emod_nonneg _ (by omega), Int.emod_lt_of_pos _ hq, ?_⟩
    rw [e_law_roll]; unfold c_law_roll defC; simp! only [i0, i1, e3, h, decide_true, sc, k0, e1, e2, j0]
    rfl
  · refine ⟨z / 8 % q, c, m + 1, Int.emod_nonneg _ (by omega), Int.emod_lt_of_pos _ hq, ?_⟩
    rw [e_law_roll]; unfold c_law_roll defC; simp! only [i0, i1, e3, h, decide_false, sc, k0, j1, hz, e4, e5]
    rfl
end TD
namespace TD
open PySem
def annS : Nat → Str
  | 0 => "ann"
  | 1 => "bob"
  | 2 => "cy"
  | 3 => "dee"
  | i + 4 => ⟨(List.replicate (i + 1) 122).toArray⟩
theorem rep_lt : ∀ a b : Nat, (List.replicate a 122 < List.replicate b 122) ↔ a < b
  | 0, 0 => by simp
  | 0, b + 1 => by simp [List.replicate_succ]
  | a + 1, 0 => by simp
  | a + 1, b + 1 => by
    rw [List.replicate_succ, List.replicate_succ, List.cons_lt_cons_iff]
    have := rep_lt a b
    constructor
    · rintro (h | ⟨_, h⟩)
      · omega
      · have := this.mp h; omega
    · intro h
      exact .inr ⟨rfl, this.mpr (by omega)⟩
theorem an0 : (annS 0).cps.toList = [97, 110, 110] := by decide +kernel
theorem an1 : (annS 1).cps.toList = [98, 111, 98] := by decide +kernel
theorem an2 : (annS 2).cps.toList = [99, 121] := by decide +kernel
theorem an3 : (annS 3).cps.toList = [100, 101, 101] := by decide +kernel
theorem an4 (i : Nat) : (annS (i + 4)).cps.toList = List.replicate (i + 1) 122 := rfl
theorem lt_z {c j : Nat} {t : List Nat} (h : c < 122) : (c :: t) < List.replicate (j + 1) 122 := by
  rw [List.replicate_succ, List.cons_lt_cons_iff]
  exact .inl h
theorem not_z {c j : Nat} {t : List Nat} (h : c < 122) : ¬ (List.replicate (j + 1) 122 < (c :: t)) := by
  rw [List.replicate_succ, List.cons_lt_cons_iff]
  rintro (h' | ⟨h', _⟩) <;> omega
theorem annS_mono (i j : Nat) : decide ((annS i).cps.toList < (annS j).cps.toList) = decide (i < j) := by
  match i, j with
  | 0, 0 => decide +kernel
  | 0, 1 => decide +kernel
  | 0, 2 => decide +kernel
  | 0, 3 => decide +kernel
  | 1, 0 => decide +kernel
  | 1, 1 => decide +kernel
  | 1, 2 => decide +kernel
  | 1, 3 => decide +kernel
  | 2, 0 => decide +kernel
  | 2, 1 => decide +kernel
  | 2, 2 => decide +kernel
  | 2, 3 => decide +kernel
  | 3, 0 => decide +kernel
  | 3, 1 => decide +kernel
  | 3, 2 => decide +kernel
  | 3, 3 => decide +kernel
  | 0, j + 4 => rw [an0, an4, decide_eq_true (lt_z (by decide)), decide_eq_true (by omega)]
  | 1, j + 4 => rw [an1, an4, decide_eq_true (lt_z (by decide)), decide_eq_true (by omega)]
  | 2, j + 4 => rw [an2, an4, decide_eq_true (lt_z (by decide)), decide_eq_true (by omega)]
  | 3, j + 4 => rw [an3, an4, decide_eq_true (lt_z (by decide)), decide_eq_true (by omega)]
  | i + 4, 0 => rw [an0, an4, decide_eq_false (not_z (by decide)), decide_eq_false (by omega)]
  | i + 4, 1 => rw [an1, an4, decide_eq_false (not_z (by decide)), decide_eq_false (by omega)]
  | i + 4, 2 => rw [an2, an4, decide_eq_false (not_z (by decide)), decide_eq_false (by omega)]
  | i + 4, 3 => rw [an3, an4, decide_eq_false (not_z (by decide)), decide_eq_false (by omega)]
  | i + 4, j + 4 =>
    rw [an4, an4]
    by_cases h : i < j
    · rw [decide_eq_true ((rep_lt _ _).mpr (by omega)), decide_eq_true (by omega)]
    · rw [decide_eq_false (fun q => h (by have := (rep_lt _ _).mp q; omega)), decide_eq_false (by omega)]
theorem annS_ok : ∀ i, PyData.strOk (annS i) = true
  | 0 => by decide +kernel
  | 1 => by decide +kernel
  | 2 => by decide +kernel
  | 3 => by decide +kernel
  | i + 4 => by
    show ((List.replicate (i + 1) 122).toArray).all (fun x => decide (x < 0x110000)) = true
    rw [List.all_toArray, List.all_eq_true]
    intro x hx
    rw [(List.mem_replicate.mp hx).2]
    decide
def annN : Nms := ⟨annS, annS_mono, annS_ok⟩
def folks : List (List Nat) := [[0, 1], [0, 1, 2], [0, 1, 2, 3]]
theorem folkOk_of {n : Nms} {fs : List Nat} (h2 : 2 ≤ fs.length) (h4 : fs.length ≤ 4) (hw : ∀ i ∈ fs, ∀ k, runK tb (k + 1) "is_word" [.val (nmD n i)] = .ok (.bool true) [.val (nmD n i)]) (hr : ∀ k, runK tb (k + 1) "rise" [.val (nsT n fs)] = .ok (.bool true) [.val (nsT n fs)]) :
    ∀ k, runK tb (k + 3) "are_folk" [.val (nsT n fs)] = .ok (.bool true) [.val (nsT n fs)] := fun k => by
  have h : c_are_folk_C1 (runK tb (k + 2)) [.val (nsT n fs), .non, .non] = .ok (boolsL (fs.map fun _ => true)) [.val (nsT n fs), .non, .non] := by
    refine (compM_map (es := fs) (enc := nmD n) (p := fun _ => true) (f := fun _ => .bool true) (env1 := fun i => [.val (nsT n fs), .non, .val (nmD n i)]) rfl rfl rfl (fun a _ => rfl) (fun a _ => rfl) (fun a ha _ => ?_) (fun a _ => rfl)).trans ?_
    · simp! only [hw a ha (k + 1)]
    · rw [List.filter_eq_self.mpr fun _ _ => rfl]
      unfold boolsL
      rw [List.map_map]
      rfl
  have hA : allD [boolsL (fs.map fun _ => true)] = some (.bool true) := by
    show (boolsOf ((fs.map fun _ => true).map .bool)).map _ = _
    rw [boolsOf_map]
    simp
  have d2 : decide ((2 : Int) ≤ (fs.length : Nat)) = true := decide_eq_true (by omega)
  have d4 : decide (((fs.length : Nat) : Int) ≤ 4) = true := decide_eq_true (by omega)
  rw [e_are_folk]; unfold c_are_folk defC; simp! only [h, hA, hr (k + 1), d2, d4, show isiD "tuple" (nsT n fs) = some true from rfl]
  rfl
theorem folkOk_need {n : Nms} {fs : List Nat} (h : ∀ k, runK tb (k + 3) "are_folk" [.val (nsT n fs)] = .ok (.bool true) [.val (nsT n fs)]) : FolkOk n fs := fun k => by
  rw [e_need_folk]; unfold c_need_folk defC; simp! only [h k]
  rfl
theorem ann_word : ∀ i, i < 4 → ∀ k, runK tb (k + 1) "is_word" [.val (nmD annN i)] = .ok (.bool true) [.val (nmD annN i)] := by
  intro i hi k
  rw [e_is_word]
  have hc : i = 0 ∨ i = 1 ∨ i = 2 ∨ i = 3 := by omega
  rcases hc with rfl | rfl | rfl | rfl <;> kernel_rfl
theorem folk_ok3 : ∀ fs ∈ folks, ∀ k, runK tb (k + 3) "are_folk" [.val (nsT annN fs)] = .ok (.bool true) [.val (nsT annN fs)] := by
  intro fs h
  unfold folks at h
  simp only [List.mem_cons, List.not_mem_nil, or_false] at h
  rcases h with rfl | rfl | rfl <;> exact folkOk_of (by decide) (by decide) (fun i hi => ann_word i (by revert i; decide)) (fun k => by rw [e_rise]; kernel_rfl)
theorem folk_ok : ∀ fs ∈ folks, FolkOk annN fs := fun fs h => folkOk_need (folk_ok3 fs h)
theorem any_folk_at (k : Nat) (c m c' m' r q : Int) (hr : runK tb (k + 2) "_law_roll" [.par [.int c, .int m], .val (.int q)] = .ok (.int r) [.par [.int c', .int m'], .val (.int q)]) (s : Int) (fs : List Nat) (a1 : ixD (.list [.int 3, .int 2, .int 3, .int 4]) (.int r) = some (.int s)) (a2 : slD (.tuple [.str "ann", .str "bob", .str "cy", .str "dee"]) none (some s) = some (nsT annN fs)) :
    runK tb (k + 3) "_law_any_folk" [.par [.int c, .int m], .val (.int q)] = .ok (nsT annN fs) [.par [.int c', .int m'], .val (.int q)] := by
  have l4 : ∀ e : En, lstM [ret (.int 3), ret (.int 2), ret (.int 3), ret (.int 4)] e = .ok (.list [.int 3, .int 2, .int 3, .int 4]) e := fun _ => rfl
  have t4 : ∀ e : En, tupM [ret (.str "ann"), ret (.str "bob"), ret (.str "cy"), ret (.str "dee")] e = .ok (.tuple [.str "ann", .str "bob", .str "cy", .str "dee"]) e := fun _ => rfl
  rw [e_law_any_folk]; unfold c_law_any_folk defC; simp! only [l4, t4, hr, a1, a2]
  rfl
theorem r_law_any_folk (k : Nat) (c m : Int) : ∃ fs ∈ folks, ∃ c' m' : Int, runK tb (k + 3) "_law_any_folk" [.par [.int c, .int m], .val (.int 4)] = .ok (nsT annN fs) [.par [.int c', .int m'], .val (.int 4)] := by
  obtain ⟨r, c', m', h0, h1, hr⟩ := r_law_roll k c m 4 (by decide) (by decide)
  have hc : r = 0 ∨ r = 1 ∨ r = 2 ∨ r = 3 := by omega
  rcases hc with rfl | rfl | rfl | rfl
  · exact ⟨[0, 1, 2], by decide, c', m', any_folk_at k c m c' m' _ _ hr 3 _ rfl (by kernel_rfl)⟩
  · exact ⟨[0, 1], by decide, c', m', any_folk_at k c m c' m' _ _ hr 2 _ rfl (by kernel_rfl)⟩
  · exact ⟨[0, 1, 2], by decide, c', m', any_folk_at k c m c' m' _ _ hr 3 _ rfl (by kernel_rfl)⟩
  · exact ⟨[0, 1, 2, 3], by decide, c', m', any_folk_at k c m c' m' _ _ hr 4 _ rfl (by kernel_rfl)⟩
end TD
namespace TD
open PySem
inductive Way : Item → Item → Prop
  | done (it : Item) : Way it it
  | comes {it jt : Item} {w : Nat} : w ∈ it.2.1 → Way (goC it w) jt → Way it jt
  | goes {it jt : Item} {w : Nat} : w ∈ it.2.2 → Way (goL it w) jt → Way it jt
theorem Way.trans {a b c : Item} (h : Way a b) (q : Way b c) : Way a c := by
  induction h with
  | done => exact q
  | comes hw _ ih => exact .comes hw (ih q)
  | goes hw _ ih => exact .goes hw (ih q)
theorem evd_sub : ∀ (k : Nat) (found : List Day) (wk : List Item) (res : List Day), evd k found wk = some res → ∀ d ∈ found, d ∈ res
  | k, found, [], res, h, d, hd => by
    have : found = res := by cases k <;> exact Option.some.inj h
    rw [← this]; exact hd
  | 0, _, _ :: _, _, h, _, _ => by cases h
  | k + 1, found, it :: rest, res, h, d, hd => evd_sub k _ _ res h d (by split <;> simp [hd])
theorem evd_way : ∀ (k : Nat) (found : List Day) (wk : List Item) (res : List Day), evd k found wk = some res → ∀ it ∈ wk, ∀ jt, Way it jt → leaf jt = true → jt.1 ∈ res
  | k, found, [], res, h, it, hi, _, _, _ => by cases hi
  | 0, _, _ :: _, _, h, _, _, _, _, _ => by cases h
  | k + 1, found, i0 :: rest, res, h, it, hi, jt, w, lf => by
    rcases List.mem_cons.mp hi with rfl | hi
    · cases w with
      | done => exact evd_sub k _ _ res h _ (by rw [if_pos lf]; simp)
      | comes hw w => exact evd_way k _ _ res h _ (by simp only [List.mem_append, List.mem_map]; exact .inl ⟨_, hw, rfl⟩) jt w lf
      | goes hw w => exact evd_way k _ _ res h _ (by simp only [List.mem_append, List.mem_map]; exact .inr (.inl ⟨_, hw, rfl⟩)) jt w lf
    · exact evd_way k _ _ res h it (by simp only [List.mem_append]; exact .inr (.inr hi)) jt w lf
theorem ins_perm {le : Nat → Nat → Bool} (a : Nat) : ∀ l : List Nat, (ins le a l).Perm (a :: l)
  | [] => .refl _
  | b :: r => by
    unfold ins
    split
    · exact .refl _
    · exact ((ins_perm a r).cons b).trans (List.Perm.swap a b r)
theorem isort_perm {le : Nat → Nat → Bool} : ∀ l : List Nat, (isort le l).Perm l
  | [] => .refl _
  | a :: r => by
    unfold isort
    exact (ins_perm a _).trans ((isort_perm r).cons a)
theorem erase_filter {l : List Nat} (nd : l.Nodup) : ∀ {j w : Nat}, l[j]? = some w → l.eraseIdx j = l.filter fun i => !decide (i = w) := by
  induction l with
  | nil => intro j w h; simp at h
  | cons a r ih =>
    intro j w h
    rw [List.nodup_cons] at nd
    cases j with
    | zero =>
      have e : a = w := by simpa using h
      subst e
      rw [List.eraseIdx_cons_zero, List.filter_cons_of_neg (by simp)]
      symm
      rw [List.filter_eq_self]
      intro x hx
      have : x ≠ a := fun e => nd.1 (e ▸ hx)
      simp [this]
    | succ j =>
      have h' : r[j]? = some w := by simpa using h
      have hm : w ∈ r := List.mem_of_getElem? h'
      have : a ≠ w := fun e => nd.1 (e ▸ hm)
      rw [List.eraseIdx_cons_succ, List.filter_cons_of_pos (by simp [this]), ih nd.2 h']
structure Mk (fs : List Nat) (out here : List Nat) (day : Day) : Prop where
  way : ∃ hs, hs.Perm here ∧ Way ([], fs, []) (day, out, hs)
  nd : out.Nodup ∧ here.Nodup ∧ ∀ w ∈ out, w ∉ here
  len : 2 * out.length + here.length + day.length = 2 * fs.length
theorem Mk.come {fs out here : List Nat} {day : Day} {j w : Nat} (m : Mk fs out here day) (h : out[j]? = some w) : Mk fs (out.eraseIdx j) (here ++ [w]) (day ++ [(true, w)]) := by
  obtain ⟨hs, hp, wy⟩ := m.way
  obtain ⟨n1, n2, n3⟩ := m.nd
  have hw : w ∈ out := List.mem_of_getElem? h
  have e := erase_filter n1 h
  obtain ⟨hj, _⟩ := List.getElem?_eq_some_iff.mp h
  refine ⟨⟨sortN (hs ++ [w]), (isort_perm _).trans (hp.append_right [w]), ?_⟩, ⟨?_, ?_, ?_⟩, ?_⟩
  · rw [e]
    exact wy.trans (.comes (w := w) hw (.done _))
  · exact List.Nodup.sublist (List.eraseIdx_sublist _ _) n1
  · rw [List.nodup_append]
    refine ⟨n2, by simp, fun a ha b hb eab => ?_⟩
    simp only [List.mem_singleton] at hb
    rw [eab, hb] at ha
    exact n3 _ hw ha
  · intro x hx hm
    rw [e, List.mem_filter] at hx
    rcases List.mem_append.mp hm with hm | hm
    · exact n3 x hx.1 hm
    · simp only [List.mem_singleton] at hm
      subst hm
      simpa using hx.2
  · have := m.len
    rw [List.length_append, List.length_append, List.length_eraseIdx, if_pos hj]
    simp
    omega
theorem Mk.go {fs out here : List Nat} {day : Day} {j w : Nat} (m : Mk fs out here day) (h : here[j]? = some w) : Mk fs out (here.eraseIdx j) (day ++ [(false, w)]) := by
  obtain ⟨hs, hp, wy⟩ := m.way
  obtain ⟨n1, n2, n3⟩ := m.nd
  have hw : w ∈ here := List.mem_of_getElem? h
  have e := erase_filter n2 h
  obtain ⟨hj, _⟩ := List.getElem?_eq_some_iff.mp h
  refine ⟨⟨hs.filter fun i => !decide (i = w), ?_, ?_⟩, ⟨n1, ?_, ?_⟩, ?_⟩
  · rw [e]
    exact hp.filter _
  · exact wy.trans (.goes (w := w) (hp.symm.subset hw) (.done _))
  · exact List.Nodup.sublist (List.eraseIdx_sublist _ _) n2
  · intro x hx hm
    exact n3 x hx ((List.eraseIdx_sublist _ _).subset hm)
  · have := m.len
    rw [List.length_append, List.length_eraseIdx, if_pos hj]
    simp
    omega
section
variable {n : Nms} {k : Nat}
theorem o_eqL0 (l : List Nat) : cmpD .Eq (.list (l.map (nmD n))) (.list []) = some (decide (l = [])) := by
  have : (PyData.list [] : D) = nsL n [] := rfl
  rw [this, show PyData.list (l.map (nmD n)) = nsL n l from rfl, cmp_eq (good_nsL n l) (good_nsL n []), nsL_eqv]
theorem o_neL0 (l : List Nat) : cmpD .NotEq (.list (l.map (nmD n))) (.list []) = some (!decide (l = [])) := by
  have : (PyData.list [] : D) = nsL n [] := rfl
  rw [this, show PyData.list (l.map (nmD n)) = nsL n l from rfl, cmp_ne (good_nsL n l) (good_nsL n []), nsL_eqv]
def adEnv (n : Nms) (fs : List Nat) (c m : Int) (out here : List Nat) (day : Day) (s5 s6 : Sl) : En := [.par [.int c, .int m], .val (nsT n fs), .own (out.map (nmD n)), .own (here.map (nmD n)), .own (day.map (evD n)), s5, s6]
theorem scI (c m : Int) : ([PyData.int c, .int m] : List D).all scal = true := rfl
theorem nat_of {r : Int} {q : Nat} (h0 : 0 ≤ r) (h1 : r < (q : Nat)) : ∃ j : Nat, r = (j : Nat) ∧ j < q := ⟨r.toNat, by omega, by omega⟩
theorem get_nm {l : List Nat} {j w : Nat} (h : l[j]? = some w) : (l.map (nmD n))[j]? = some (nmD n w) := by rw [List.getElem?_map, h]; rfl
theorem ad_come {fs out here : List Nat} {day : Day} {c m : Int} {s5 s6 : Sl} (h5 : Vn s5) (h6 : Vn s6) (M : Mk fs out here day) (ho : out ≠ []) (hl : fs.length ≤ 100) :
    ∃ (out' here' : List Nat) (day' : Day) (c' m' : Int) (s6' : Sl), Vn s6' ∧ Mk fs out' here' day' ∧ day'.length = day.length + 1 ∧ (blk [(setS 6 (valR (mtN 2 (popAtM (callP (runK tb (k + 2)) "_law_roll" 2 0 [(lenN 2 (rdSlot 2))])) (mtM (fun _ _ => none) (rdSlot 2) [(callP (runK tb (k + 2)) "_law_roll" 2 0 [(lenN 2 (rdSlot 2))])])))),
        (exS (mtN 3 (appM (rdSlot 6)) (mtM (fun _ _ => none) (rdSlot 3) [(rdSlot 6)]))),
        (exS (mtN 4 (appM (tupM [(ret (.str "comes")), (rdSlot 6)])) (mtM (fun _ _ => none) (rdSlot 4) [(tupM [(ret (.str "comes")), (rdSlot 6)])])))]) (adEnv n fs c m out here day s5 s6) = .ok .next (adEnv n fs c' m' out' here' day' s5 s6') := by
  have hpos : 0 < out.length := List.length_pos_iff.mpr ho
  have hlen := M.len
  obtain ⟨r, c', m', h0, h1, hr⟩ := r_law_roll k c m (out.length : Nat) (by omega) (by omega)
  obtain ⟨j, rfl, hj⟩ := nat_of h0 h1
  have hg : out[j]? = some out[j] := List.getElem?_eq_getElem hj
  refine ⟨out.eraseIdx j, here ++ [out[j]], day ++ [(true, out[j])], c', m', .val (nmD n out[j]), .v _, M.come hg, by simp, ?_⟩
  have hg' := get_nm (n := n) hg
  have l1 : here.length < lim := by unfold lim; omega
  have l2 : day.length < lim := by unfold lim; omega
  unfold adEnv
  have pz : ∀ (s0 s1 : Sl) (r : En), popAtTo 2 (.int (j : Nat)) (s0 :: s1 :: .own (out.map (nmD n)) :: r) = .ok (nmD n out[j]) (s0 :: s1 :: .own ((out.map (nmD n)).eraseIdx j) :: r) := fun _ _ _ => x_pa2 hg'
  rcases h6 with rfl | ⟨d, rfl⟩
  · simp! only [List.length_map, hr, pz, l1, l2, List.map_append, erase_mapF]
  · simp! only [List.length_map, hr, pz, l1, l2, List.map_append, erase_mapF]
theorem ad_go {fs out here : List Nat} {day : Day} {c m : Int} {s5 s6 : Sl} (h5 : Vn s5) (h6 : Vn s6) (M : Mk fs out here day) (ho : here ≠ []) (hl : fs.length ≤ 100) :
    ∃ (out' here' : List Nat) (day' : Day) (c' m' : Int) (s6' : Sl), Vn s6' ∧ Mk fs out' here' day' ∧ day'.length = day.length + 1 ∧ (blk [(exS (mtN 4 (appM (tupM [(ret (.str "leaves")), (mtN 3 (popAtM (callP (runK tb (k + 2)) "_law_roll" 2 0 [(lenN 3 (rdSlot 3))])) (mtM (fun _ _ => none) (rdSlot 3) [(callP (runK tb (k + 2)) "_law_roll" 2 0 [(lenN 3 (rdSlot 3))])]))])) (mtM (fun _ _ => none) (rdSlot 4) [(tupM [(ret (.str "leaves")), (mtN 3 (popAtM (callP (runK tb (k + 2)) "_law_roll" 2 0 [(lenN 3 (rdSlot 3))])) (mtM (fun _ _ => none) (rdSlot 3) [(callP (runK tb (k + 2)) "_law_roll" 2 0 [(lenN 3 (rdSlot 3))])]))])])))]) (adEnv n fs c m out here day s5 s6) = .ok .next (adEnv n fs c' m' out' here' day' s5 s6') := by
  have hpos : 0 < here.length := List.length_pos_iff.mpr ho
  have hlen := M.len
  obtain ⟨r, c', m', h0, h1, hr⟩ := r_law_roll k c m (here.length : Nat) (by omega) (by omega)
  obtain ⟨j, rfl, hj⟩ := nat_of h0 h1
  have hg : here[j]? = some here[j] := List.getElem?_eq_getElem hj
  refine ⟨out, here.eraseIdx j, day ++ [(false, here[j])], c', m', s6, h6, M.go hg, by simp, ?_⟩
  have hg' := get_nm (n := n) hg
  have l2 : day.length < lim := by unfold lim; omega
  have pz : ∀ (s0 s1 s2 : Sl) (r : En), popAtTo 3 (.int (j : Nat)) (s0 :: s1 :: s2 :: .own (here.map (nmD n)) :: r) = .ok (nmD n here[j]) (s0 :: s1 :: s2 :: .own ((here.map (nmD n)).eraseIdx j) :: r) := fun _ _ _ _ => x_pa3 hg'
  unfold adEnv
  simp! only [List.length_map, hr, pz, l2, List.map_append, erase_mapF]
theorem ad_body {fs out here : List Nat} {day : Day} {c m : Int} {s5 s6 : Sl} (h5 : Vn s5) (h6 : Vn s6) (M : Mk fs out here day) (hr : day.length < 2 * fs.length) (hl : fs.length ≤ 100) :
    ∃ (out' here' : List Nat) (day' : Day) (c' m' : Int) (s6' : Sl), Vn s6' ∧ Mk fs out' here' day' ∧ day'.length = day.length + 1 ∧ c_law_any_day_B1 (runK tb (k + 2)) (adEnv n fs c m out here day s5 s6) = .ok .next (adEnv n fs c' m' out' here' day' s5 s6') := by
  have hlen := M.len
  have rs5 : ∀ (t : Sl) (r r' : En), restore (s5 :: r) (t :: r') = (restore r r').map fun u => s5 :: u := fun t r r' => h5.rs
  have rs6 : ∀ (t : Sl) (r r' : En), restore (s6 :: r) (t :: r') = (restore r r').map fun u => s6 :: u := fun t r r' => h6.rs
  have test : ∀ (T : TD.M Bool) (b : Bool) (c' m' : Int), T [.par [.int c, .int m], .val (nsT n fs), .val (.list (out.map (nmD n))), .val (.list (here.map (nmD n))), .val (.list (day.map (evD n))), s5, s6] = .ok b [.par [.int c', .int m'], .val (nsT n fs), .val (.list (out.map (nmD n))), .val (.list (here.map (nmD n))), .val (.list (day.map (evD n))), s5, s6] → ∀ X Y : TD.M Fl, ifS T X Y (adEnv n fs c m out here day s5 s6) = (if b then X else Y) (adEnv n fs c' m' out here day s5 s6) := fun T b c' m' h X Y => by
    unfold adEnv
    have sc := scI c' m'
    simp! only [h5.fz, h6.fz, h, sc, rs5, rs6]
  obtain ⟨r, c1, m1, g0, g1, hroll⟩ := r_law_roll k c m 2 (by decide) (by decide)
  by_cases hh : here = []
  · have ho : out ≠ [] := by
      intro e
      rw [e, hh] at hlen
      simp at hlen
      omega
    have t := test (orB (cmpB .Eq (rdSlot 3) (lstM [])) (andB (cmpB .NotEq (rdSlot 2) (lstM [])) (cmpB .Eq (callP (runK tb (k + 2)) "_law_roll" 2 0 [(ret (.int 2))]) (ret (.int 0))))) true c m (by simp! only [o_eqL0, decide_eq_true hh])
    obtain ⟨out', here', day', c', m', s6', a1, a2, a3, a4⟩ := ad_come (n := n) (k := k) (c := c) (m := m) h5 h6 M ho hl
    refine ⟨out', here', day', c', m', s6', a1, a2, a3, ?_⟩
    unfold c_law_any_day_B1
    rw [x_blkc, t, if_pos rfl, a4]
    rfl
  · by_cases ho : out = []
    · have t := test (orB (cmpB .Eq (rdSlot 3) (lstM [])) (andB (cmpB .NotEq (rdSlot 2) (lstM [])) (cmpB .Eq (callP (runK tb (k + 2)) "_law_roll" 2 0 [(ret (.int 2))]) (ret (.int 0))))) false c m (by simp! only [o_eqL0, o_neL0, decide_eq_false hh, decide_eq_true ho])
      obtain ⟨out', here', day', c', m', s6', a1, a2, a3, a4⟩ := ad_go (n := n) (k := k) (c := c) (m := m) h5 h6 M hh hl
      refine ⟨out', here', day', c', m', s6', a1, a2, a3, ?_⟩
      unfold c_law_any_day_B1
      rw [x_blkc, t, if_neg (by simp), a4]
      rfl
    · have t := test (orB (cmpB .Eq (rdSlot 3) (lstM [])) (andB (cmpB .NotEq (rdSlot 2) (lstM [])) (cmpB .Eq (callP (runK tb (k + 2)) "_law_roll" 2 0 [(ret (.int 2))]) (ret (.int 0))))) (decide (r = 0)) c1 m1 (by simp! only [o_eqL0, o_neL0, decide_eq_false hh, decide_eq_false ho, hroll])
      by_cases h0 : r = 0
      · obtain ⟨out', here', day', c', m', s6', a1, a2, a3, a4⟩ := ad_come (n := n) (k := k) (c := c1) (m := m1) h5 h6 M ho hl
        refine ⟨out', here', day', c', m', s6', a1, a2, a3, ?_⟩
        unfold c_law_any_day_B1
        rw [x_blkc, t, decide_eq_true h0, if_pos rfl, a4]
        rfl
      · obtain ⟨out', here', day', c', m', s6', a1, a2, a3, a4⟩ := ad_go (n := n) (k := k) (c := c1) (m := m1) h5 h6 M hh hl
        refine ⟨out', here', day', c', m', s6', a1, a2, a3, ?_⟩
        unfold c_law_any_day_B1
        rw [x_blkc, t, decide_eq_false h0, if_neg (by simp), a4]
        rfl
theorem upTo_map (q : Nat) : upTo 0 q = (List.range q).map fun i : Nat => (PyData.int (i : Nat) : D) := by
  unfold upTo
  congr 1
  funext i
  rw [Int.zero_add]
theorem r_law_any_day {fs : List Nat} {ds : List Day} (hd : evd 29999 [] [([], fs, [])] = some ds) (nd : fs.Nodup) (hl : fs.length ≤ 100) (c m : Int) : ∃ day ∈ ds, ∃ c' m' : Int, runK tb (k + 3) "_law_any_day" [.par [.int c, .int m], .val (nsT n fs)] = .ok (dayD n day) [.par [.int c', .int m'], .val (nsT n fs)] := by
  obtain ⟨e, he, P⟩ := forL_inv (enc := fun i : Nat => (PyData.int (i : Nat) : D)) (asg := asgP 3 (.nm 5)) (body := c_law_any_day_B1 (runK tb (k + 2))) (fun r e => ∃ c m out here day s5 s6, Vn s5 ∧ Vn s6 ∧ Mk fs out here day ∧ day.length + r.length = 2 * fs.length ∧ e = adEnv n fs c m out here day s5 s6) (es := List.range (2 * fs.length)) (e0 := adEnv n fs c m fs [] [] .non .non) (fun a r e ⟨c, m, out, here, day, s5, s6, h5, h6, M, hlen, he⟩ => by
    subst he
    rw [List.length_cons] at hlen
    obtain ⟨out', here', day', c', m', s6', g6, M', hl', hb⟩ := ad_body (n := n) (k := k) (c := c) (m := m) (s5 := .val (.int (a : Nat))) (.v _) h6 M (by omega) hl
    refine ⟨adEnv n fs c m out here day (.val (.int (a : Nat))) s6, adEnv n fs c' m' out' here' day' (.val (.int (a : Nat))) s6', ?_, hb, ⟨c', m', out', here', day', _, s6', .v _, g6, M', by omega, rfl⟩⟩
    unfold adEnv
    rcases h5 with rfl | ⟨d, rfl⟩ <;> rfl) ⟨c, m, fs, [], [], .non, .non, .n, .n, ⟨⟨[], .refl _, .done _⟩, ⟨nd, List.nodup_nil, fun _ _ h => by cases h⟩, by simp⟩, by simp, rfl⟩
  obtain ⟨c', m', out, here, day, s5, s6, h5, h6, M, hlen, rfl⟩ := P
  have hl2 := M.len
  have hlen' : day.length = 2 * fs.length := by simpa using hlen
  have o0 : out = [] := List.eq_nil_of_length_eq_zero (by omega)
  have i0 : here = [] := List.eq_nil_of_length_eq_zero (by omega)
  subst o0 i0
  obtain ⟨hs, hp, wy⟩ := M.way
  have hs0 : hs = [] := hp.eq_nil
  subst hs0
  refine ⟨day, evd_way 29999 _ _ ds hd _ (by simp) _ wy rfl, c', m', ?_⟩
  rw [← upTo_map] at he
  have hsm : smallI (2 * (fs.length : Nat)) = true := by
    unfold smallI
    rw [decide_eq_true (by omega), decide_eq_true (by omega)]
    rfl
  have ht : (2 * (fs.length : Nat) : Int).toNat = 2 * fs.length := by omega
  unfold adEnv at he
  have he' : forL (asgP 3 (.nm 5)) (c_law_any_day_B1 (runK tb (k + 2))) (upTo 0 (2 * fs.length)) [.par [.int c, .int m], .val (nsT n fs), .own (fs.map (nmD n)), .own [], .own [], .non, .non] = _ := he
  rw [e_law_any_day]; unfold c_law_any_day defC; simp! only [show cpyThen (nsT n fs) = ret (Sl.own (fs.map (nmD n))) from rfl, hsm, ht, he']
  rfl
end
end TD
namespace TD
open PySem
theorem wq_found_found : cmpD .Eq (.str "found") (.str "found") = some true := by kernel_rfl
theorem wq_found_stayed : cmpD .Eq (.str "found") (.str "stayed") = some false := by kernel_rfl
theorem wq_found_met : cmpD .Eq (.str "found") (.str "met") = some false := by kernel_rfl
theorem wq_found_saw : cmpD .Eq (.str "found") (.str "saw") = some false := by kernel_rfl
theorem wq_found_kept : cmpD .Eq (.str "found") (.str "kept") = some false := by kernel_rfl
theorem wq_found_first : cmpD .Eq (.str "found") (.str "first") = some false := by kernel_rfl
theorem wq_found_sooner : cmpD .Eq (.str "found") (.str "sooner") = some false := by kernel_rfl
theorem wq_found_not : cmpD .Eq (.str "found") (.str "not") = some false := by kernel_rfl
theorem wq_found_either : cmpD .Eq (.str "found") (.str "either") = some false := by kernel_rfl
theorem wc_found : cmpD .In (.str "found") (.tuple [.str "found", .str "stayed"]) = some true := by kernel_rfl
theorem wt_found : cmpD .In (.str "found") (.tuple [.str "met", .str "saw", .str "kept", .str "first", .str "sooner"]) = some false := by kernel_rfl
theorem wi_found : isiD "str" (.str "found") = some true := rfl
theorem wq_stayed_found : cmpD .Eq (.str "stayed") (.str "found") = some false := by kernel_rfl
theorem wq_stayed_stayed : cmpD .Eq (.str "stayed") (.str "stayed") = some true := by kernel_rfl
theorem wq_stayed_met : cmpD .Eq (.str "stayed") (.str "met") = some false := by kernel_rfl
theorem wq_stayed_saw : cmpD .Eq (.str "stayed") (.str "saw") = some false := by kernel_rfl
theorem wq_stayed_kept : cmpD .Eq (.str "stayed") (.str "kept") = some false := by kernel_rfl
theorem wq_stayed_first : cmpD .Eq (.str "stayed") (.str "first") = some false := by kernel_rfl
theorem wq_stayed_sooner : cmpD .Eq (.str "stayed") (.str "sooner") = some false := by kernel_rfl
theorem wq_stayed_not : cmpD .Eq (.str "stayed") (.str "not") = some false := by kernel_rfl
theorem wq_stayed_either : cmpD .Eq (.str "stayed") (.str "either") = some false := by kernel_rfl
theorem wc_stayed : cmpD .In (.str "stayed") (.tuple [.str "found", .str "stayed"]) = some true := by kernel_rfl
theorem wt_stayed : cmpD .In (.str "stayed") (.tuple [.str "met", .str "saw", .str "kept", .str "first", .str "sooner"]) = some false := by kernel_rfl
theorem wi_stayed : isiD "str" (.str "stayed") = some true := rfl
theorem wq_met_found : cmpD .Eq (.str "met") (.str "found") = some false := by kernel_rfl
theorem wq_met_stayed : cmpD .Eq (.str "met") (.str "stayed") = some false := by kernel_rfl
theorem wq_met_met : cmpD .Eq (.str "met") (.str "met") = some true := by kernel_rfl
theorem wq_met_saw : cmpD .Eq (.str "met") (.str "saw") = some false := by kernel_rfl
theorem wq_met_kept : cmpD .Eq (.str "met") (.str "kept") = some false := by kernel_rfl
theorem wq_met_first : cmpD .Eq (.str "met") (.str "first") = some false := by kernel_rfl
theorem wq_met_sooner : cmpD .Eq (.str "met") (.str "sooner") = some false := by kernel_rfl
theorem wq_met_not : cmpD .Eq (.str "met") (.str "not") = some false := by kernel_rfl
theorem wq_met_either : cmpD .Eq (.str "met") (.str "either") = some false := by kernel_rfl
theorem wc_met : cmpD .In (.str "met") (.tuple [.str "found", .str "stayed"]) = some false := by kernel_rfl
theorem wt_met : cmpD .In (.str "met") (.tuple [.str "met", .str "saw", .str "kept", .str "first", .str "sooner"]) = some true := by kernel_rfl
theorem wi_met : isiD "str" (.str "met") = some true := rfl
theorem wq_saw_found : cmpD .Eq (.str "saw") (.str "found") = some false := by kernel_rfl
theorem wq_saw_stayed : cmpD .Eq (.str "saw") (.str "stayed") = some false := by kernel_rfl
theorem wq_saw_met : cmpD .Eq (.str "saw") (.str "met") = some false := by kernel_rfl
theorem wq_saw_saw : cmpD .Eq (.str "saw") (.str "saw") = some true := by kernel_rfl
theorem wq_saw_kept : cmpD .Eq (.str "saw") (.str "kept") = some false := by kernel_rfl
theorem wq_saw_first : cmpD .Eq (.str "saw") (.str "first") = some false := by kernel_rfl
theorem wq_saw_sooner : cmpD .Eq (.str "saw") (.str "sooner") = some false := by kernel_rfl
theorem wq_saw_not : cmpD .Eq (.str "saw") (.str "not") = some false := by kernel_rfl
theorem wq_saw_either : cmpD .Eq (.str "saw") (.str "either") = some false := by kernel_rfl
theorem wc_saw : cmpD .In (.str "saw") (.tuple [.str "found", .str "stayed"]) = some false := by kernel_rfl
theorem wt_saw : cmpD .In (.str "saw") (.tuple [.str "met", .str "saw", .str "kept", .str "first", .str "sooner"]) = some true := by kernel_rfl
theorem wi_saw : isiD "str" (.str "saw") = some true := rfl
theorem wq_kept_found : cmpD .Eq (.str "kept") (.str "found") = some false := by kernel_rfl
theorem wq_kept_stayed : cmpD .Eq (.str "kept") (.str "stayed") = some false := by kernel_rfl
theorem wq_kept_met : cmpD .Eq (.str "kept") (.str "met") = some false := by kernel_rfl
theorem wq_kept_saw : cmpD .Eq (.str "kept") (.str "saw") = some false := by kernel_rfl
theorem wq_kept_kept : cmpD .Eq (.str "kept") (.str "kept") = some true := by kernel_rfl
theorem wq_kept_first : cmpD .Eq (.str "kept") (.str "first") = some false := by kernel_rfl
theorem wq_kept_sooner : cmpD .Eq (.str "kept") (.str "sooner") = some false := by kernel_rfl
theorem wq_kept_not : cmpD .Eq (.str "kept") (.str "not") = some false := by kernel_rfl
theorem wq_kept_either : cmpD .Eq (.str "kept") (.str "either") = some false := by kernel_rfl
theorem wc_kept : cmpD .In (.str "kept") (.tuple [.str "found", .str "stayed"]) = some false := by kernel_rfl
theorem wt_kept : cmpD .In (.str "kept") (.tuple [.str "met", .str "saw", .str "kept", .str "first", .str "sooner"]) = some true := by kernel_rfl
theorem wi_kept : isiD "str" (.str "kept") = some true := rfl
theorem wq_first_found : cmpD .Eq (.str "first") (.str "found") = some false := by kernel_rfl
theorem wq_first_stayed : cmpD .Eq (.str "first") (.str "stayed") = some false := by kernel_rfl
theorem wq_first_met : cmpD .Eq (.str "first") (.str "met") = some false := by kernel_rfl
theorem wq_first_saw : cmpD .Eq (.str "first") (.str "saw") = some false := by kernel_rfl
theorem wq_first_kept : cmpD .Eq (.str "first") (.str "kept") = some false := by kernel_rfl
theorem wq_first_first : cmpD .Eq (.str "first") (.str "first") = some true := by kernel_rfl
theorem wq_first_sooner : cmpD .Eq (.str "first") (.str "sooner") = some false := by kernel_rfl
theorem wq_first_not : cmpD .Eq (.str "first") (.str "not") = some false := by kernel_rfl
theorem wq_first_either : cmpD .Eq (.str "first") (.str "either") = some false := by kernel_rfl
theorem wc_first : cmpD .In (.str "first") (.tuple [.str "found", .str "stayed"]) = some false := by kernel_rfl
theorem wt_first : cmpD .In (.str "first") (.tuple [.str "met", .str "saw", .str "kept", .str "first", .str "sooner"]) = some true := by kernel_rfl
theorem wi_first : isiD "str" (.str "first") = some true := rfl
theorem wq_sooner_found : cmpD .Eq (.str "sooner") (.str "found") = some false := by kernel_rfl
theorem wq_sooner_stayed : cmpD .Eq (.str "sooner") (.str "stayed") = some false := by kernel_rfl
theorem wq_sooner_met : cmpD .Eq (.str "sooner") (.str "met") = some false := by kernel_rfl
theorem wq_sooner_saw : cmpD .Eq (.str "sooner") (.str "saw") = some false := by kernel_rfl
theorem wq_sooner_kept : cmpD .Eq (.str "sooner") (.str "kept") = some false := by kernel_rfl
theorem wq_sooner_first : cmpD .Eq (.str "sooner") (.str "first") = some false := by kernel_rfl
theorem wq_sooner_sooner : cmpD .Eq (.str "sooner") (.str "sooner") = some true := by kernel_rfl
theorem wq_sooner_not : cmpD .Eq (.str "sooner") (.str "not") = some false := by kernel_rfl
theorem wq_sooner_either : cmpD .Eq (.str "sooner") (.str "either") = some false := by kernel_rfl
theorem wc_sooner : cmpD .In (.str "sooner") (.tuple [.str "found", .str "stayed"]) = some false := by kernel_rfl
theorem wt_sooner : cmpD .In (.str "sooner") (.tuple [.str "met", .str "saw", .str "kept", .str "first", .str "sooner"]) = some true := by kernel_rfl
theorem wi_sooner : isiD "str" (.str "sooner") = some true := rfl
theorem wq_not_found : cmpD .Eq (.str "not") (.str "found") = some false := by kernel_rfl
theorem wq_not_stayed : cmpD .Eq (.str "not") (.str "stayed") = some false := by kernel_rfl
theorem wq_not_met : cmpD .Eq (.str "not") (.str "met") = some false := by kernel_rfl
theorem wq_not_saw : cmpD .Eq (.str "not") (.str "saw") = some false := by kernel_rfl
theorem wq_not_kept : cmpD .Eq (.str "not") (.str "kept") = some false := by kernel_rfl
theorem wq_not_first : cmpD .Eq (.str "not") (.str "first") = some false := by kernel_rfl
theorem wq_not_sooner : cmpD .Eq (.str "not") (.str "sooner") = some false := by kernel_rfl
theorem wq_not_not : cmpD .Eq (.str "not") (.str "not") = some true := by kernel_rfl
theorem wq_not_either : cmpD .Eq (.str "not") (.str "either") = some false := by kernel_rfl
theorem wc_not : cmpD .In (.str "not") (.tuple [.str "found", .str "stayed"]) = some false := by kernel_rfl
theorem wt_not : cmpD .In (.str "not") (.tuple [.str "met", .str "saw", .str "kept", .str "first", .str "sooner"]) = some false := by kernel_rfl
theorem wi_not : isiD "str" (.str "not") = some true := rfl
theorem wq_either_found : cmpD .Eq (.str "either") (.str "found") = some false := by kernel_rfl
theorem wq_either_stayed : cmpD .Eq (.str "either") (.str "stayed") = some false := by kernel_rfl
theorem wq_either_met : cmpD .Eq (.str "either") (.str "met") = some false := by kernel_rfl
theorem wq_either_saw : cmpD .Eq (.str "either") (.str "saw") = some false := by kernel_rfl
theorem wq_either_kept : cmpD .Eq (.str "either") (.str "kept") = some false := by kernel_rfl
theorem wq_either_first : cmpD .Eq (.str "either") (.str "first") = some false := by kernel_rfl
theorem wq_either_sooner : cmpD .Eq (.str "either") (.str "sooner") = some false := by kernel_rfl
theorem wq_either_not : cmpD .Eq (.str "either") (.str "not") = some false := by kernel_rfl
theorem wq_either_either : cmpD .Eq (.str "either") (.str "either") = some true := by kernel_rfl
theorem wc_either : cmpD .In (.str "either") (.tuple [.str "found", .str "stayed"]) = some false := by kernel_rfl
theorem wt_either : cmpD .In (.str "either") (.tuple [.str "met", .str "saw", .str "kept", .str "first", .str "sooner"]) = some false := by kernel_rfl
theorem wi_either : isiD "str" (.str "either") = some true := rfl
end TD
local macro_rules | `(tactic| simp! only [$args,*]) => `(tactic| simp -implicitDefEqProofs only [List.length_cons, List.length_nil, ↓reduceIte, List.replicate, List.cons_append, List.nil_append, List.map_cons, List.map_nil, Option.map_some, Bool.not_true, Bool.not_false, Bool.false_eq_true, Bool.true_eq_false, Bool.and_true, Bool.true_and, Bool.and_false, Bool.false_and, TD.x_bnd, TD.x_then_ok, TD.x_then_exc, TD.x_ret, TD.x_opt, TD.x_noX, TD.x_noExc, TD.x_keep_ok, TD.x_keep_exc, TD.x_lentTo, TD.x_seq0, TD.x_seqc, TD.x_opM, TD.x_cmpM, TD.x_cmpB, TD.x_cmp2M, TD.x_cmp2B, TD.x_andB, TD.x_orB, TD.x_notB, TD.x_boolThen, TD.x_andM, TD.x_orM, TD.x_negM, TD.x_notM, TD.x_asBool, TD.x_ifM, TD.x_tup0, TD.x_tup1, TD.x_tup2, TD.x_tup3, TD.x_lst0, TD.x_lst1, TD.x_bf1, TD.x_bf2, TD.x_mt1, TD.x_slM, TD.x_intThen, TD.x_partM, TD.x_rvM, TD.x_ixM, TD.x_isiM, TD.x_call1, TD.x_call2, TD.x_call3, TD.x_fl_next, TD.x_fl_ret, TD.x_fl_brk, TD.x_blk0, TD.x_blkc, TD.x_exS, TD.x_retS, TD.x_raiS, TD.x_valR, TD.x_own0, TD.x_own1, TD.x_cpyT, TD.x_cpyL, TD.x_cpyR, TD.x_setS, TD.x_setL, TD.x_wrL0, TD.x_wrLc, TD.x_unpS, TD.x_ifD, TD.x_ifS, TD.x_forS, TD.x_seqI, TD.x_seqOfL, TD.x_seqOfT, TD.x_rng1T, TD.x_rng1, TD.x_enuL, TD.x_enuT, TD.x_enuI, TD.x_zipL, TD.x_zipT, TD.x_zipI, TD.x_rd0, TD.x_rdo0, TD.x_wv0, TD.x_wo0, TD.x_wn0, TD.x_ixv0, TD.x_lnv0, TD.x_lno0, TD.x_mtv0, TD.x_mto0, TD.x_lt0, TD.x_lp0, TD.x_pt0, TD.x_pp0, TD.x_cp0, TD.x_cq0, TD.x_rd1, TD.x_rdo1, TD.x_wv1, TD.x_wo1, TD.x_wn1, TD.x_ixv1, TD.x_lnv1, TD.x_lno1, TD.x_mtv1, TD.x_mto1, TD.x_lt1, TD.x_lp1, TD.x_pt1, TD.x_pp1, TD.x_cp1, TD.x_cq1, TD.x_rd2, TD.x_rdo2, TD.x_wv2, TD.x_wo2, TD.x_wn2, TD.x_ixv2, TD.x_lnv2, TD.x_lno2, TD.x_mtv2, TD.x_mto2, TD.x_lt2, TD.x_lp2, TD.x_pt2, TD.x_pp2, TD.x_cp2, TD.x_cq2, TD.x_rd3, TD.x_rdo3, TD.x_wv3, TD.x_wo3, TD.x_wn3, TD.x_ixv3, TD.x_lnv3, TD.x_lno3, TD.x_mtv3, TD.x_mto3, TD.x_lt3, TD.x_lp3, TD.x_pt3, TD.x_pp3, TD.x_cp3, TD.x_cq3, TD.x_rd4, TD.x_rdo4, TD.x_wv4, TD.x_wo4, TD.x_wn4, TD.x_ixv4, TD.x_lnv4, TD.x_lno4, TD.x_mtv4, TD.x_mto4, TD.x_lt4, TD.x_lp4, TD.x_pt4, TD.x_pp4, TD.x_cp4, TD.x_cq4, TD.x_rd5, TD.x_rdo5, TD.x_wv5, TD.x_wo5, TD.x_wn5, TD.x_ixv5, TD.x_lnv5, TD.x_lno5, TD.x_mtv5, TD.x_mto5, TD.x_lt5, TD.x_lp5, TD.x_pt5, TD.x_pp5, TD.x_cp5, TD.x_cq5, TD.x_rd6, TD.x_rdo6, TD.x_wv6, TD.x_wo6, TD.x_wn6, TD.x_ixv6, TD.x_lnv6, TD.x_lno6, TD.x_mtv6, TD.x_mto6, TD.x_lt6, TD.x_lp6, TD.x_pt6, TD.x_pp6, TD.x_cp6, TD.x_cq6, TD.x_rd7, TD.x_rdo7, TD.x_wv7, TD.x_wo7, TD.x_wn7, TD.x_ixv7, TD.x_lnv7, TD.x_lno7, TD.x_mtv7, TD.x_mto7, TD.x_lt7, TD.x_lp7, TD.x_pt7, TD.x_pp7, TD.x_cp7, TD.x_cq7, TD.x_rd8, TD.x_rdo8, TD.x_wv8, TD.x_wo8, TD.x_wn8, TD.x_ixv8, TD.x_lnv8, TD.x_lno8, TD.x_mtv8, TD.x_mto8, TD.x_lt8, TD.x_lp8, TD.x_pt8, TD.x_pp8, TD.x_cp8, TD.x_cq8, TD.x_rd9, TD.x_rdo9, TD.x_wv9, TD.x_wo9, TD.x_wn9, TD.x_ixv9, TD.x_lnv9, TD.x_lno9, TD.x_mtv9, TD.x_mto9, TD.x_lt9, TD.x_lp9, TD.x_pt9, TD.x_pp9, TD.x_cp9, TD.x_cq9, TD.x_rd10, TD.x_rdo10, TD.x_wv10, TD.x_wo10, TD.x_wn10, TD.x_ixv10, TD.x_lnv10, TD.x_lno10, TD.x_mtv10, TD.x_mto10, TD.x_lt10, TD.x_lp10, TD.x_pt10, TD.x_pp10, TD.x_cp10, TD.x_cq10, TD.x_rd11, TD.x_rdo11, TD.x_wv11, TD.x_wo11, TD.x_wn11, TD.x_ixv11, TD.x_lnv11, TD.x_lno11, TD.x_mtv11, TD.x_mto11, TD.x_lt11, TD.x_lp11, TD.x_pt11, TD.x_pp11, TD.x_cp11, TD.x_cq11, TD.x_rd12, TD.x_rdo12, TD.x_wv12, TD.x_wo12, TD.x_wn12, TD.x_ixv12, TD.x_lnv12, TD.x_lno12, TD.x_mtv12, TD.x_mto12, TD.x_lt12, TD.x_lp12, TD.x_pt12, TD.x_pp12, TD.x_cp12, TD.x_cq12, TD.x_rd13, TD.x_rdo13, TD.x_wv13, TD.x_wo13, TD.x_wn13, TD.x_ixv13, TD.x_lnv13, TD.x_lno13, TD.x_mtv13, TD.x_mto13, TD.x_lt13, TD.x_lp13, TD.x_pt13, TD.x_pp13, TD.x_cp13, TD.x_cq13, TD.x_bor, TD.x_back, TD.x_backE, TD.x_backTo, TD.x_frzv, TD.x_frzo, TD.x_frzp, TD.x_frzn, TD.x_rs0, TD.x_rsv, TD.x_rso, TD.x_rsn, TD.x_rsp, TD.x_asn, TD.x_as2, TD.x_as3, TD.x_app, TD.x_popAt, TD.x_rem, TD.x_ap0, TD.x_po0, TD.x_pa0, TD.x_ap1, TD.x_po1, TD.x_pa1, TD.x_ap2, TD.x_po2, TD.x_pa2, TD.x_ap3, TD.x_po3, TD.x_pa3, TD.x_ap4, TD.x_po4, TD.x_pa4, TD.x_ap5, TD.x_po5, TD.x_pa5, TD.x_ap6, TD.x_po6, TD.x_pa6, TD.x_ap7, TD.x_po7, TD.x_pa7, TD.x_ap8, TD.x_po8, TD.x_pa8, TD.x_ap9, TD.x_po9, TD.x_pa9, TD.x_ap10, TD.x_po10, TD.x_pa10, TD.x_ap11, TD.x_po11, TD.x_pa11, TD.x_ap12, TD.x_po12, TD.x_pa12, TD.x_ap13, TD.x_po13, TD.x_pa13, TD.o_mul2, TD.o_add, TD.o_sub, TD.o_lt, TD.o_le, TD.o_gt, TD.o_ge, TD.o_eqi, TD.o_nei, TD.len_day, TD.len_nsT, TD.len_nsL, TD.isi_day, TD.isi_ev, TD.isi_word, TD.isi_nm, TD.ix_ev0, TD.ix_ev1, TD.len_ev, TD.sl_dayTo, TD.tup_comes, TD.tup_leaves, TD.idx_day, TD.cnt_day, TD.in_nsT, TD.in_nsL, TD.seq_day, TD.seq_nsT, TD.seq_nsL, TD.o_word, TD.o_word', TD.x_rd14, TD.x_rd15, TD.x_rd16, TD.x_rd17, TD.x_rd18, TD.x_rd19, TD.x_rd20, TD.x_rd21, TD.x_rd22, TD.x_rd23, TD.x_rd24, TD.x_rd25, TD.x_rdo14, TD.x_rdo15, TD.x_rdo16, TD.x_rdo17, TD.x_rdo18, TD.x_rdo19, TD.x_rdo20, TD.x_rdo21, TD.x_rdo22, TD.x_rdo23, TD.x_rdo24, TD.x_rdo25, TD.x_wv14, TD.x_wv15, TD.x_wv16, TD.x_wv17, TD.x_wv18, TD.x_wv19, TD.x_wv20, TD.x_wv21, TD.x_wv22, TD.x_wv23, TD.x_wv24, TD.x_wv25, TD.x_wo14, TD.x_wo15, TD.x_wo16, TD.x_wo17, TD.x_wo18, TD.x_wo19, TD.x_wo20, TD.x_wo21, TD.x_wo22, TD.x_wo23, TD.x_wo24, TD.x_wo25, TD.x_wn14, TD.x_wn15, TD.x_wn16, TD.x_wn17, TD.x_wn18, TD.x_wn19, TD.x_wn20, TD.x_wn21, TD.x_wn22, TD.x_wn23, TD.x_wn24, TD.x_wn25, TD.x_ixv14, TD.x_ixv15, TD.x_ixv16, TD.x_ixv17, TD.x_ixv18, TD.x_ixv19, TD.x_ixv20, TD.x_ixv21, TD.x_ixv22, TD.x_ixv23, TD.x_ixv24, TD.x_ixv25, TD.x_lnv14, TD.x_lnv15, TD.x_lnv16, TD.x_lnv17, TD.x_lnv18, TD.x_lnv19, TD.x_lnv20, TD.x_lnv21, TD.x_lnv22, TD.x_lnv23, TD.x_lnv24, TD.x_lnv25, TD.x_lno14, TD.x_lno15, TD.x_lno16, TD.x_lno17, TD.x_lno18, TD.x_lno19, TD.x_lno20, TD.x_lno21, TD.x_lno22, TD.x_lno23, TD.x_lno24, TD.x_lno25, TD.x_mtv14, TD.x_mtv15, TD.x_mtv16, TD.x_mtv17, TD.x_mtv18, TD.x_mtv19, TD.x_mtv20, TD.x_mtv21, TD.x_mtv22, TD.x_mtv23, TD.x_mtv24, TD.x_mtv25, TD.x_mto14, TD.x_mto15, TD.x_mto16, TD.x_mto17, TD.x_mto18, TD.x_mto19, TD.x_mto20, TD.x_mto21, TD.x_mto22, TD.x_mto23, TD.x_mto24, TD.x_mto25, TD.x_lt14, TD.x_lt15, TD.x_lt16, TD.x_lt17, TD.x_lt18, TD.x_lt19, TD.x_lt20, TD.x_lt21, TD.x_lt22, TD.x_lt23, TD.x_lt24, TD.x_lt25, TD.x_lp14, TD.x_lp15, TD.x_lp16, TD.x_lp17, TD.x_lp18, TD.x_lp19, TD.x_lp20, TD.x_lp21, TD.x_lp22, TD.x_lp23, TD.x_lp24, TD.x_lp25, TD.x_pt14, TD.x_pt15, TD.x_pt16, TD.x_pt17, TD.x_pt18, TD.x_pt19, TD.x_pt20, TD.x_pt21, TD.x_pt22, TD.x_pt23, TD.x_pt24, TD.x_pt25, TD.x_pp14, TD.x_pp15, TD.x_pp16, TD.x_pp17, TD.x_pp18, TD.x_pp19, TD.x_pp20, TD.x_pp21, TD.x_pp22, TD.x_pp23, TD.x_pp24, TD.x_pp25, TD.x_cp14, TD.x_cp15, TD.x_cp16, TD.x_cp17, TD.x_cp18, TD.x_cp19, TD.x_cp20, TD.x_cp21, TD.x_cp22, TD.x_cp23, TD.x_cp24, TD.x_cp25, TD.x_cq14, TD.x_cq15, TD.x_cq16, TD.x_cq17, TD.x_cq18, TD.x_cq19, TD.x_cq20, TD.x_cq21, TD.x_cq22, TD.x_cq23, TD.x_cq24, TD.x_cq25, TD.x_ap14, TD.x_ap15, TD.x_ap16, TD.x_ap17, TD.x_ap18, TD.x_ap19, TD.x_ap20, TD.x_ap21, TD.x_ap22, TD.x_ap23, TD.x_ap24, TD.x_ap25, TD.x_po14, TD.x_po15, TD.x_po16, TD.x_po17, TD.x_po18, TD.x_po19, TD.x_po20, TD.x_po21, TD.x_po22, TD.x_po23, TD.x_po24, TD.x_po25, TD.x_pa14, TD.x_pa15, TD.x_pa16, TD.x_pa17, TD.x_pa18, TD.x_pa19, TD.x_pa20, TD.x_pa21, TD.x_pa22, TD.x_pa23, TD.x_pa24, TD.x_pa25, TD.x_re14, TD.x_re15, TD.x_re16, TD.x_re17, TD.x_re18, TD.x_re19, TD.x_re20, TD.x_re21, TD.x_re22, TD.x_re23, TD.x_re24, TD.x_re25, TD.x_ixp14, TD.x_ixp15, TD.x_ixp16, TD.x_ixp17, TD.x_ixp18, TD.x_ixp19, TD.x_ixp20, TD.x_ixp21, TD.x_ixp22, TD.x_ixp23, TD.x_ixp24, TD.x_ixp25, TD.x_ixo0, TD.x_ixt0, TD.x_ixo1, TD.x_ixt1, TD.x_ixo2, TD.x_ixt2, TD.x_ixo3, TD.x_ixt3, TD.x_ixo4, TD.x_ixt4, TD.x_ixo5, TD.x_ixt5, TD.x_ixo6, TD.x_ixt6, TD.x_ixo7, TD.x_ixt7, TD.x_ixo8, TD.x_ixt8, TD.x_ixo9, TD.x_ixt9, TD.x_ixo10, TD.x_ixt10, TD.x_ixo11, TD.x_ixt11, TD.x_ixo12, TD.x_ixt12, TD.x_ixo13, TD.x_ixt13, TD.x_ixo14, TD.x_ixt14, TD.x_ixo15, TD.x_ixt15, TD.x_ixo16, TD.x_ixt16, TD.x_ixo17, TD.x_ixt17, TD.x_ixo18, TD.x_ixt18, TD.x_ixo19, TD.x_ixt19, TD.x_ixo20, TD.x_ixt20, TD.x_ixo21, TD.x_ixt21, TD.x_ixo22, TD.x_ixt22, TD.x_ixo23, TD.x_ixt23, TD.x_ixo24, TD.x_ixt24, TD.x_ixo25, TD.x_ixt25, TD.x_tup4, TD.x_tup5, TD.x_tup6, TD.x_lst2, TD.x_lst3, TD.x_lst4, TD.x_lst5, TD.x_lst6, TD.x_lst7, TD.x_lst8, TD.x_lst9, TD.x_lst10, TD.x_lst11, TD.x_lst12, TD.x_lst13, TD.x_lst14, TD.x_own2, TD.x_own3, TD.x_lim2, TD.x_lim3, TD.x_lim4, TD.x_lim5, TD.x_lim6, TD.x_lim7, TD.x_lim8, TD.x_lim9, TD.x_lim10, TD.x_lim11, TD.x_lim12, TD.x_lim13, TD.x_lim14, TD.x_ltl0, TD.x_ltl1, TD.x_ltl2, TD.x_ltl3, TD.x_ltl4, TD.x_ltl5, TD.x_ltl6, TD.x_ltl7, TD.x_ltl8, TD.x_ltl9, TD.x_ltl10, TD.x_ltl11, TD.x_ltl12, TD.x_ltl13, TD.x_ltl14, TD.x_call4, TD.x_cl4, TD.x_call5, TD.x_cl5, TD.x_cpp0, TD.x_cqq0, TD.x_cpp1, TD.x_cqq1, TD.x_cpp2, TD.x_cqq2, TD.x_cpp3, TD.x_cqq3, TD.x_cpp4, TD.x_cqq4, TD.x_cpp5, TD.x_cqq5, TD.x_as12, TD.x_lowM, TD.x_tolM, TD.x_tolTo, TD.x_tol_BadFolk, TD.x_tol_BadName, TD.x_tol_BadDay, TD.x_tol_BadMoment, TD.x_tol_BadNumber, TD.x_tol_BadSaying, TD.x_tol_BadBook, TD.x_tol_BadCounts, TD.x_tol_BadWeb, TD.x_tol_Nothing, TD.x_tol_BadText, TD.wq_found_found, TD.wq_found_stayed, TD.wq_found_met, TD.wq_found_saw, TD.wq_found_kept, TD.wq_found_first, TD.wq_found_sooner, TD.wq_found_not, TD.wq_found_either, TD.wc_found, TD.wt_found, TD.wi_found, TD.wq_stayed_found, TD.wq_stayed_stayed, TD.wq_stayed_met, TD.wq_stayed_saw, TD.wq_stayed_kept, TD.wq_stayed_first, TD.wq_stayed_sooner, TD.wq_stayed_not, TD.wq_stayed_either, TD.wc_stayed, TD.wt_stayed, TD.wi_stayed, TD.wq_met_found, TD.wq_met_stayed, TD.wq_met_met, TD.wq_met_saw, TD.wq_met_kept, TD.wq_met_first, TD.wq_met_sooner, TD.wq_met_not, TD.wq_met_either, TD.wc_met, TD.wt_met, TD.wi_met, TD.wq_saw_found, TD.wq_saw_stayed, TD.wq_saw_met, TD.wq_saw_saw, TD.wq_saw_kept, TD.wq_saw_first, TD.wq_saw_sooner, TD.wq_saw_not, TD.wq_saw_either, TD.wc_saw, TD.wt_saw, TD.wi_saw, TD.wq_kept_found, TD.wq_kept_stayed, TD.wq_kept_met, TD.wq_kept_saw, TD.wq_kept_kept, TD.wq_kept_first, TD.wq_kept_sooner, TD.wq_kept_not, TD.wq_kept_either, TD.wc_kept, TD.wt_kept, TD.wi_kept, TD.wq_first_found, TD.wq_first_stayed, TD.wq_first_met, TD.wq_first_saw, TD.wq_first_kept, TD.wq_first_first, TD.wq_first_sooner, TD.wq_first_not, TD.wq_first_either, TD.wc_first, TD.wt_first, TD.wi_first, TD.wq_sooner_found, TD.wq_sooner_stayed, TD.wq_sooner_met, TD.wq_sooner_saw, TD.wq_sooner_kept, TD.wq_sooner_first, TD.wq_sooner_sooner, TD.wq_sooner_not, TD.wq_sooner_either, TD.wc_sooner, TD.wt_sooner, TD.wi_sooner, TD.wq_not_found, TD.wq_not_stayed, TD.wq_not_met, TD.wq_not_saw, TD.wq_not_kept, TD.wq_not_first, TD.wq_not_sooner, TD.wq_not_not, TD.wq_not_either, TD.wc_not, TD.wt_not, TD.wi_not, TD.wq_either_found, TD.wq_either_stayed, TD.wq_either_met, TD.wq_either_saw, TD.wq_either_kept, TD.wq_either_first, TD.wq_either_sooner, TD.wq_either_not, TD.wq_either_either, TD.wc_either, TD.wt_either, TD.wi_either, $args,*])
namespace TD
open PySem
inductive Tw where
  | met | saw | kept | first | sooner
  deriving DecidableEq, Repr
inductive Say where
  | cnt (b : Bool) (w : Nat) (m : Nat)
  | two (t : Tw) (a b : Nat)
  | neg (s : Say)
  | or (s t : Say)
  deriving DecidableEq, Repr
def Say.ok (fs : List Nat) : Say → Bool
  | .cnt _ w m => decide (w ∈ fs) && decide (m ≤ 3)
  | .two _ a b => decide (a ∈ fs) && decide (b ∈ fs) && !decide (a = b)
  | .neg s => s.ok fs
  | .or s t => s.ok fs && t.ok fs
theorem ixN_lt {m i : Nat} (h : i < m) : L2.ixN m ((i : Nat) : Int) = some i := by
  unfold L2.ixN
  rw [if_pos (by omega), if_pos (by omega), Int.toNat_natCast]
theorem ix_lst {ds : List D} {i : Nat} {d : D} (h : ds[i]? = some d) : ixD (.list ds) (.int ((i : Nat) : Int)) = some d := by
  obtain ⟨hl, _⟩ := List.getElem?_eq_some_iff.mp h
  show L2.atI ds ((i : Nat) : Int) = _
  unfold L2.atI
  rw [ixN_lt hl]
  exact h
theorem len_t1 (a : D) : lenD [.tuple [a]] = some (.int 1) := rfl
theorem len_t2 (a b : D) : lenD [.tuple [a, b]] = some (.int 2) := rfl
theorem len_t3 (a b c : D) : lenD [.tuple [a, b, c]] = some (.int 3) := rfl
theorem nd00 : decide ((0 : Int) = 0) = true := rfl
theorem nd01 : decide ((0 : Int) = 1) = false := rfl
theorem nd02 : decide ((0 : Int) = 2) = false := rfl
theorem nd03 : decide ((0 : Int) = 3) = false := rfl
theorem nd10 : decide ((1 : Int) = 0) = false := rfl
theorem nd11 : decide ((1 : Int) = 1) = true := rfl
theorem nd12 : decide ((1 : Int) = 2) = false := rfl
theorem nd13 : decide ((1 : Int) = 3) = false := rfl
theorem nd20 : decide ((2 : Int) = 0) = false := rfl
theorem nd21 : decide ((2 : Int) = 1) = false := rfl
theorem nd22 : decide ((2 : Int) = 2) = true := rfl
theorem nd23 : decide ((2 : Int) = 3) = false := rfl
theorem nd30 : decide ((3 : Int) = 0) = false := rfl
theorem nd31 : decide ((3 : Int) = 1) = false := rfl
theorem nd32 : decide ((3 : Int) = 2) = false := rfl
theorem nd33 : decide ((3 : Int) = 3) = true := rfl
end TD
local macro_rules | `(tactic| simp! only [$args,*]) => `(tactic| simp -implicitDefEqProofs only [List.length_cons, List.length_nil, ↓reduceIte, List.replicate, List.cons_append, List.nil_append, List.map_cons, List.map_nil, Option.map_some, Bool.not_true, Bool.not_false, Bool.false_eq_true, Bool.true_eq_false, Bool.and_true, Bool.true_and, Bool.and_false, Bool.false_and, TD.x_bnd, TD.x_then_ok, TD.x_then_exc, TD.x_ret, TD.x_opt, TD.x_noX, TD.x_noExc, TD.x_keep_ok, TD.x_keep_exc, TD.x_lentTo, TD.x_seq0, TD.x_seqc, TD.x_opM, TD.x_cmpM, TD.x_cmpB, TD.x_cmp2M, TD.x_cmp2B, TD.x_andB, TD.x_orB, TD.x_notB, TD.x_boolThen, TD.x_andM, TD.x_orM, TD.x_negM, TD.x_notM, TD.x_asBool, TD.x_ifM, TD.x_tup0, TD.x_tup1, TD.x_tup2, TD.x_tup3, TD.x_lst0, TD.x_lst1, TD.x_bf1, TD.x_bf2, TD.x_mt1, TD.x_slM, TD.x_intThen, TD.x_partM, TD.x_rvM, TD.x_ixM, TD.x_isiM, TD.x_call1, TD.x_call2, TD.x_call3, TD.x_fl_next, TD.x_fl_ret, TD.x_fl_brk, TD.x_blk0, TD.x_blkc, TD.x_exS, TD.x_retS, TD.x_raiS, TD.x_valR, TD.x_own0, TD.x_own1, TD.x_cpyT, TD.x_cpyL, TD.x_cpyR, TD.x_setS, TD.x_setL, TD.x_wrL0, TD.x_wrLc, TD.x_unpS, TD.x_ifD, TD.x_ifS, TD.x_forS, TD.x_seqI, TD.x_seqOfL, TD.x_seqOfT, TD.x_rng1T, TD.x_rng1, TD.x_enuL, TD.x_enuT, TD.x_enuI, TD.x_zipL, TD.x_zipT, TD.x_zipI, TD.x_rd0, TD.x_rdo0, TD.x_wv0, TD.x_wo0, TD.x_wn0, TD.x_ixv0, TD.x_lnv0, TD.x_lno0, TD.x_mtv0, TD.x_mto0, TD.x_lt0, TD.x_lp0, TD.x_pt0, TD.x_pp0, TD.x_cp0, TD.x_cq0, TD.x_rd1, TD.x_rdo1, TD.x_wv1, TD.x_wo1, TD.x_wn1, TD.x_ixv1, TD.x_lnv1, TD.x_lno1, TD.x_mtv1, TD.x_mto1, TD.x_lt1, TD.x_lp1, TD.x_pt1, TD.x_pp1, TD.x_cp1, TD.x_cq1, TD.x_rd2, TD.x_rdo2, TD.x_wv2, TD.x_wo2, TD.x_wn2, TD.x_ixv2, TD.x_lnv2, TD.x_lno2, TD.x_mtv2, TD.x_mto2, TD.x_lt2, TD.x_lp2, TD.x_pt2, TD.x_pp2, TD.x_cp2, TD.x_cq2, TD.x_rd3, TD.x_rdo3, TD.x_wv3, TD.x_wo3, TD.x_wn3, TD.x_ixv3, TD.x_lnv3, TD.x_lno3, TD.x_mtv3, TD.x_mto3, TD.x_lt3, TD.x_lp3, TD.x_pt3, TD.x_pp3, TD.x_cp3, TD.x_cq3, TD.x_rd4, TD.x_rdo4, TD.x_wv4, TD.x_wo4, TD.x_wn4, TD.x_ixv4, TD.x_lnv4, TD.x_lno4, TD.x_mtv4, TD.x_mto4, TD.x_lt4, TD.x_lp4, TD.x_pt4, TD.x_pp4, TD.x_cp4, TD.x_cq4, TD.x_rd5, TD.x_rdo5, TD.x_wv5, TD.x_wo5, TD.x_wn5, TD.x_ixv5, TD.x_lnv5, TD.x_lno5, TD.x_mtv5, TD.x_mto5, TD.x_lt5, TD.x_lp5, TD.x_pt5, TD.x_pp5, TD.x_cp5, TD.x_cq5, TD.x_rd6, TD.x_rdo6, TD.x_wv6, TD.x_wo6, TD.x_wn6, TD.x_ixv6, TD.x_lnv6, TD.x_lno6, TD.x_mtv6, TD.x_mto6, TD.x_lt6, TD.x_lp6, TD.x_pt6, TD.x_pp6, TD.x_cp6, TD.x_cq6, TD.x_rd7, TD.x_rdo7, TD.x_wv7, TD.x_wo7, TD.x_wn7, TD.x_ixv7, TD.x_lnv7, TD.x_lno7, TD.x_mtv7, TD.x_mto7, TD.x_lt7, TD.x_lp7, TD.x_pt7, TD.x_pp7, TD.x_cp7, TD.x_cq7, TD.x_rd8, TD.x_rdo8, TD.x_wv8, TD.x_wo8, TD.x_wn8, TD.x_ixv8, TD.x_lnv8, TD.x_lno8, TD.x_mtv8, TD.x_mto8, TD.x_lt8, TD.x_lp8, TD.x_pt8, TD.x_pp8, TD.x_cp8, TD.x_cq8, TD.x_rd9, TD.x_rdo9, TD.x_wv9, TD.x_wo9, TD.x_wn9, TD.x_ixv9, TD.x_lnv9, TD.x_lno9, TD.x_mtv9, TD.x_mto9, TD.x_lt9, TD.x_lp9, TD.x_pt9, TD.x_pp9, TD.x_cp9, TD.x_cq9, TD.x_rd10, TD.x_rdo10, TD.x_wv10, TD.x_wo10, TD.x_wn10, TD.x_ixv10, TD.x_lnv10, TD.x_lno10, TD.x_mtv10, TD.x_mto10, TD.x_lt10, TD.x_lp10, TD.x_pt10, TD.x_pp10, TD.x_cp10, TD.x_cq10, TD.x_rd11, TD.x_rdo11, TD.x_wv11, TD.x_wo11, TD.x_wn11, TD.x_ixv11, TD.x_lnv11, TD.x_lno11, TD.x_mtv11, TD.x_mto11, TD.x_lt11, TD.x_lp11, TD.x_pt11, TD.x_pp11, TD.x_cp11, TD.x_cq11, TD.x_rd12, TD.x_rdo12, TD.x_wv12, TD.x_wo12, TD.x_wn12, TD.x_ixv12, TD.x_lnv12, TD.x_lno12, TD.x_mtv12, TD.x_mto12, TD.x_lt12, TD.x_lp12, TD.x_pt12, TD.x_pp12, TD.x_cp12, TD.x_cq12, TD.x_rd13, TD.x_rdo13, TD.x_wv13, TD.x_wo13, TD.x_wn13, TD.x_ixv13, TD.x_lnv13, TD.x_lno13, TD.x_mtv13, TD.x_mto13, TD.x_lt13, TD.x_lp13, TD.x_pt13, TD.x_pp13, TD.x_cp13, TD.x_cq13, TD.x_bor, TD.x_back, TD.x_backE, TD.x_backTo, TD.x_frzv, TD.x_frzo, TD.x_frzp, TD.x_frzn, TD.x_rs0, TD.x_rsv, TD.x_rso, TD.x_rsn, TD.x_rsp, TD.x_asn, TD.x_as2, TD.x_as3, TD.x_app, TD.x_popAt, TD.x_rem, TD.x_ap0, TD.x_po0, TD.x_pa0, TD.x_ap1, TD.x_po1, TD.x_pa1, TD.x_ap2, TD.x_po2, TD.x_pa2, TD.x_ap3, TD.x_po3, TD.x_pa3, TD.x_ap4, TD.x_po4, TD.x_pa4, TD.x_ap5, TD.x_po5, TD.x_pa5, TD.x_ap6, TD.x_po6, TD.x_pa6, TD.x_ap7, TD.x_po7, TD.x_pa7, TD.x_ap8, TD.x_po8, TD.x_pa8, TD.x_ap9, TD.x_po9, TD.x_pa9, TD.x_ap10, TD.x_po10, TD.x_pa10, TD.x_ap11, TD.x_po11, TD.x_pa11, TD.x_ap12, TD.x_po12, TD.x_pa12, TD.x_ap13, TD.x_po13, TD.x_pa13, TD.o_mul2, TD.o_add, TD.o_sub, TD.o_lt, TD.o_le, TD.o_gt, TD.o_ge, TD.o_eqi, TD.o_nei, TD.len_day, TD.len_nsT, TD.len_nsL, TD.isi_day, TD.isi_ev, TD.isi_word, TD.isi_nm, TD.ix_ev0, TD.ix_ev1, TD.len_ev, TD.sl_dayTo, TD.tup_comes, TD.tup_leaves, TD.idx_day, TD.cnt_day, TD.in_nsT, TD.in_nsL, TD.seq_day, TD.seq_nsT, TD.seq_nsL, TD.o_word, TD.o_word', TD.x_rd14, TD.x_rd15, TD.x_rd16, TD.x_rd17, TD.x_rd18, TD.x_rd19, TD.x_rd20, TD.x_rd21, TD.x_rd22, TD.x_rd23, TD.x_rd24, TD.x_rd25, TD.x_rdo14, TD.x_rdo15, TD.x_rdo16, TD.x_rdo17, TD.x_rdo18, TD.x_rdo19, TD.x_rdo20, TD.x_rdo21, TD.x_rdo22, TD.x_rdo23, TD.x_rdo24, TD.x_rdo25, TD.x_wv14, TD.x_wv15, TD.x_wv16, TD.x_wv17, TD.x_wv18, TD.x_wv19, TD.x_wv20, TD.x_wv21, TD.x_wv22, TD.x_wv23, TD.x_wv24, TD.x_wv25, TD.x_wo14, TD.x_wo15, TD.x_wo16, TD.x_wo17, TD.x_wo18, TD.x_wo19, TD.x_wo20, TD.x_wo21, TD.x_wo22, TD.x_wo23, TD.x_wo24, TD.x_wo25, TD.x_wn14, TD.x_wn15, TD.x_wn16, TD.x_wn17, TD.x_wn18, TD.x_wn19, TD.x_wn20, TD.x_wn21, TD.x_wn22, TD.x_wn23, TD.x_wn24, TD.x_wn25, TD.x_ixv14, TD.x_ixv15, TD.x_ixv16, TD.x_ixv17, TD.x_ixv18, TD.x_ixv19, TD.x_ixv20, TD.x_ixv21, TD.x_ixv22, TD.x_ixv23, TD.x_ixv24, TD.x_ixv25, TD.x_lnv14, TD.x_lnv15, TD.x_lnv16, TD.x_lnv17, TD.x_lnv18, TD.x_lnv19, TD.x_lnv20, TD.x_lnv21, TD.x_lnv22, TD.x_lnv23, TD.x_lnv24, TD.x_lnv25, TD.x_lno14, TD.x_lno15, TD.x_lno16, TD.x_lno17, TD.x_lno18, TD.x_lno19, TD.x_lno20, TD.x_lno21, TD.x_lno22, TD.x_lno23, TD.x_lno24, TD.x_lno25, TD.x_mtv14, TD.x_mtv15, TD.x_mtv16, TD.x_mtv17, TD.x_mtv18, TD.x_mtv19, TD.x_mtv20, TD.x_mtv21, TD.x_mtv22, TD.x_mtv23, TD.x_mtv24, TD.x_mtv25, TD.x_mto14, TD.x_mto15, TD.x_mto16, TD.x_mto17, TD.x_mto18, TD.x_mto19, TD.x_mto20, TD.x_mto21, TD.x_mto22, TD.x_mto23, TD.x_mto24, TD.x_mto25, TD.x_lt14, TD.x_lt15, TD.x_lt16, TD.x_lt17, TD.x_lt18, TD.x_lt19, TD.x_lt20, TD.x_lt21, TD.x_lt22, TD.x_lt23, TD.x_lt24, TD.x_lt25, TD.x_lp14, TD.x_lp15, TD.x_lp16, TD.x_lp17, TD.x_lp18, TD.x_lp19, TD.x_lp20, TD.x_lp21, TD.x_lp22, TD.x_lp23, TD.x_lp24, TD.x_lp25, TD.x_pt14, TD.x_pt15, TD.x_pt16, TD.x_pt17, TD.x_pt18, TD.x_pt19, TD.x_pt20, TD.x_pt21, TD.x_pt22, TD.x_pt23, TD.x_pt24, TD.x_pt25, TD.x_pp14, TD.x_pp15, TD.x_pp16, TD.x_pp17, TD.x_pp18, TD.x_pp19, TD.x_pp20, TD.x_pp21, TD.x_pp22, TD.x_pp23, TD.x_pp24, TD.x_pp25, TD.x_cp14, TD.x_cp15, TD.x_cp16, TD.x_cp17, TD.x_cp18, TD.x_cp19, TD.x_cp20, TD.x_cp21, TD.x_cp22, TD.x_cp23, TD.x_cp24, TD.x_cp25, TD.x_cq14, TD.x_cq15, TD.x_cq16, TD.x_cq17, TD.x_cq18, TD.x_cq19, TD.x_cq20, TD.x_cq21, TD.x_cq22, TD.x_cq23, TD.x_cq24, TD.x_cq25, TD.x_ap14, TD.x_ap15, TD.x_ap16, TD.x_ap17, TD.x_ap18, TD.x_ap19, TD.x_ap20, TD.x_ap21, TD.x_ap22, TD.x_ap23, TD.x_ap24, TD.x_ap25, TD.x_po14, TD.x_po15, TD.x_po16, TD.x_po17, TD.x_po18, TD.x_po19, TD.x_po20, TD.x_po21, TD.x_po22, TD.x_po23, TD.x_po24, TD.x_po25, TD.x_pa14, TD.x_pa15, TD.x_pa16, TD.x_pa17, TD.x_pa18, TD.x_pa19, TD.x_pa20, TD.x_pa21, TD.x_pa22, TD.x_pa23, TD.x_pa24, TD.x_pa25, TD.x_re14, TD.x_re15, TD.x_re16, TD.x_re17, TD.x_re18, TD.x_re19, TD.x_re20, TD.x_re21, TD.x_re22, TD.x_re23, TD.x_re24, TD.x_re25, TD.x_ixp14, TD.x_ixp15, TD.x_ixp16, TD.x_ixp17, TD.x_ixp18, TD.x_ixp19, TD.x_ixp20, TD.x_ixp21, TD.x_ixp22, TD.x_ixp23, TD.x_ixp24, TD.x_ixp25, TD.x_ixo0, TD.x_ixt0, TD.x_ixo1, TD.x_ixt1, TD.x_ixo2, TD.x_ixt2, TD.x_ixo3, TD.x_ixt3, TD.x_ixo4, TD.x_ixt4, TD.x_ixo5, TD.x_ixt5, TD.x_ixo6, TD.x_ixt6, TD.x_ixo7, TD.x_ixt7, TD.x_ixo8, TD.x_ixt8, TD.x_ixo9, TD.x_ixt9, TD.x_ixo10, TD.x_ixt10, TD.x_ixo11, TD.x_ixt11, TD.x_ixo12, TD.x_ixt12, TD.x_ixo13, TD.x_ixt13, TD.x_ixo14, TD.x_ixt14, TD.x_ixo15, TD.x_ixt15, TD.x_ixo16, TD.x_ixt16, TD.x_ixo17, TD.x_ixt17, TD.x_ixo18, TD.x_ixt18, TD.x_ixo19, TD.x_ixt19, TD.x_ixo20, TD.x_ixt20, TD.x_ixo21, TD.x_ixt21, TD.x_ixo22, TD.x_ixt22, TD.x_ixo23, TD.x_ixt23, TD.x_ixo24, TD.x_ixt24, TD.x_ixo25, TD.x_ixt25, TD.x_tup4, TD.x_tup5, TD.x_tup6, TD.x_lst2, TD.x_lst3, TD.x_lst4, TD.x_lst5, TD.x_lst6, TD.x_lst7, TD.x_lst8, TD.x_lst9, TD.x_lst10, TD.x_lst11, TD.x_lst12, TD.x_lst13, TD.x_lst14, TD.x_own2, TD.x_own3, TD.x_lim2, TD.x_lim3, TD.x_lim4, TD.x_lim5, TD.x_lim6, TD.x_lim7, TD.x_lim8, TD.x_lim9, TD.x_lim10, TD.x_lim11, TD.x_lim12, TD.x_lim13, TD.x_lim14, TD.x_ltl0, TD.x_ltl1, TD.x_ltl2, TD.x_ltl3, TD.x_ltl4, TD.x_ltl5, TD.x_ltl6, TD.x_ltl7, TD.x_ltl8, TD.x_ltl9, TD.x_ltl10, TD.x_ltl11, TD.x_ltl12, TD.x_ltl13, TD.x_ltl14, TD.x_call4, TD.x_cl4, TD.x_call5, TD.x_cl5, TD.x_cpp0, TD.x_cqq0, TD.x_cpp1, TD.x_cqq1, TD.x_cpp2, TD.x_cqq2, TD.x_cpp3, TD.x_cqq3, TD.x_cpp4, TD.x_cqq4, TD.x_cpp5, TD.x_cqq5, TD.x_as12, TD.x_lowM, TD.x_tolM, TD.x_tolTo, TD.x_tol_BadFolk, TD.x_tol_BadName, TD.x_tol_BadDay, TD.x_tol_BadMoment, TD.x_tol_BadNumber, TD.x_tol_BadSaying, TD.x_tol_BadBook, TD.x_tol_BadCounts, TD.x_tol_BadWeb, TD.x_tol_Nothing, TD.x_tol_BadText, TD.wq_found_found, TD.wq_found_stayed, TD.wq_found_met, TD.wq_found_saw, TD.wq_found_kept, TD.wq_found_first, TD.wq_found_sooner, TD.wq_found_not, TD.wq_found_either, TD.wc_found, TD.wt_found, TD.wi_found, TD.wq_stayed_found, TD.wq_stayed_stayed, TD.wq_stayed_met, TD.wq_stayed_saw, TD.wq_stayed_kept, TD.wq_stayed_first, TD.wq_stayed_sooner, TD.wq_stayed_not, TD.wq_stayed_either, TD.wc_stayed, TD.wt_stayed, TD.wi_stayed, TD.wq_met_found, TD.wq_met_stayed, TD.wq_met_met, TD.wq_met_saw, TD.wq_met_kept, TD.wq_met_first, TD.wq_met_sooner, TD.wq_met_not, TD.wq_met_either, TD.wc_met, TD.wt_met, TD.wi_met, TD.wq_saw_found, TD.wq_saw_stayed, TD.wq_saw_met, TD.wq_saw_saw, TD.wq_saw_kept, TD.wq_saw_first, TD.wq_saw_sooner, TD.wq_saw_not, TD.wq_saw_either, TD.wc_saw, TD.wt_saw, TD.wi_saw, TD.wq_kept_found, TD.wq_kept_stayed, TD.wq_kept_met, TD.wq_kept_saw, TD.wq_kept_kept, TD.wq_kept_first, TD.wq_kept_sooner, TD.wq_kept_not, TD.wq_kept_either, TD.wc_kept, TD.wt_kept, TD.wi_kept, TD.wq_first_found, TD.wq_first_stayed, TD.wq_first_met, TD.wq_first_saw, TD.wq_first_kept, TD.wq_first_first, TD.wq_first_sooner, TD.wq_first_not, TD.wq_first_either, TD.wc_first, TD.wt_first, TD.wi_first, TD.wq_sooner_found, TD.wq_sooner_stayed, TD.wq_sooner_met, TD.wq_sooner_saw, TD.wq_sooner_kept, TD.wq_sooner_first, TD.wq_sooner_sooner, TD.wq_sooner_not, TD.wq_sooner_either, TD.wc_sooner, TD.wt_sooner, TD.wi_sooner, TD.wq_not_found, TD.wq_not_stayed, TD.wq_not_met, TD.wq_not_saw, TD.wq_not_kept, TD.wq_not_first, TD.wq_not_sooner, TD.wq_not_not, TD.wq_not_either, TD.wc_not, TD.wt_not, TD.wi_not, TD.wq_either_found, TD.wq_either_stayed, TD.wq_either_met, TD.wq_either_saw, TD.wq_either_kept, TD.wq_either_first, TD.wq_either_sooner, TD.wq_either_not, TD.wq_either_either, TD.wc_either, TD.wt_either, TD.wi_either, TD.len_t1, TD.len_t2, TD.len_t3, TD.nd00, TD.nd01, TD.nd02, TD.nd03, TD.nd10, TD.nd11, TD.nd12, TD.nd13, TD.nd20, TD.nd21, TD.nd22, TD.nd23, TD.nd30, TD.nd31, TD.nd32, TD.nd33, $args,*])
namespace TD
open PySem
def foundL (es : Day) (f : Nat) : Option (List Nat) := match idx (true, f) es with
  | some i => (who [] (es.take i)).map sortN
  | none => none
def stayedL (es : Day) (f : Nat) : Option (List Nat) := match idx (false, f) es with
  | some i => (who [] (es.take (i + 1))).map sortN
  | none => none
structure DayOk (fs : List Nat) (es : Day) : Prop where
  g : good fs es = true
  l : es.length ≤ 1000
  w : ∀ i, i ≤ es.length → (who [] (es.take i)).isSome = true
def ltO (a b : Option Nat) : Bool := match a, b with
  | some i, some j => decide (i < j)
  | _, _ => false
def twoP (es : Day) (t : Tw) (a b : Nat) : Bool := match t with
  | .met => metB es a b
  | .saw => decide (b ∈ (foundL es a).getD [])
  | .kept => decide (b ∈ (stayedL es a).getD [])
  | .first => ltO (idx (true, a) es) (idx (true, b) es)
  | .sooner => ltO (idx (false, a) es) (idx (false, b) es)
def cntP (es : Day) (b : Bool) (w : Nat) : Int := if b then (foundN es w).getD 0 else (stayN es w).getD 0
theorem o_inNs {n : Nms} (a : Nat) (l : List Nat) : cmpD .In (nmD n a) (nsL n l) = some (decide (a ∈ l)) := in_list (nm_eqv n) (good_nm n) (by decide) a l
end TD
namespace TD
open PySem
theorem compM_each {α : Type} {enc : α → D} {es : List α} {f : α → D} {env1 : α → En} {vs : List Nat} {I : M (List D)} {t : Tg} {E : M D} {env env' : En} (hI : I env = .ok (es.map enc) env') (hn : noneLent env' vs = true) (hb : backE env' (wipeE env' vs) vs = env')
    (h1 : ∀ a ∈ es, asgP 3 t (enc a) (wipeE env' vs) = .ok () (env1 a)) (h3 : ∀ a ∈ es, E (env1 a) = .ok (f a) (env1 a)) (h4 : ∀ a ∈ es, wipeE (env1 a) vs = wipeE env' vs) : compM vs I t (ret true) E env = .ok (.list (es.map f)) env' :=
  (compM_map (p := fun _ => true) hI hn hb h1 (fun a _ => rfl) (fun a ha _ => h3 a ha) h4).trans (by rw [List.filter_eq_self.mpr (fun _ _ => rfl)])
structure Cn (n : Nms) (fs : List Nat) (ds : List Day) : Prop where
  F : FolkOk n fs
  hd : evd 29999 [] [([], fs, [])] = some ds
  hf : fs.length ≤ 4
  ok : ∀ d ∈ ds, DayOk fs d
  p : (pairsP fs).length ≤ 1000
section
variable {n : Nms} {fs : List Nat} {ds : List Day}
theorem good_days (l : List Day) : Good 3 (daysD n l) := Good.list (Good.map (good_day n) l)
theorem o_neDays (a b : List Day) : cmpD .NotEq (daysD n a) (daysD n b) = some (!decide (a = b)) := by rw [cmp_ne (good_days a) (good_days b)]; unfold daysD; rw [list_eqv (day_eqv n)]
end
end TD
namespace TD
open PySem
def memEv (e : Ev) (l : Day) : Bool := l.any fun z => decide (z = e)
def lawIn (es : Day) (m : Nat) : List Nat := sortN ((((es.take m).filter (·.1)).map (·.2)).filter fun w => !memEv (false, w) (es.take m))
theorem any_encA {α : Type} [DecidableEq α] {enc : α → D} (h : ∀ a b, PyData.eqv (enc a) (enc b) = decide (a = b)) (x : α) : ∀ l : List α, ((l.map enc).any fun z => PyData.eqv z (enc x)) = l.any fun z => decide (z = x)
  | [] => rfl
  | a :: l => by rw [List.map_cons, List.any_cons, h, any_encA h x l, List.any_cons]
theorem in_listA {α : Type} [DecidableEq α] {k : Nat} {enc : α → D} (h : ∀ a b, PyData.eqv (enc a) (enc b) = decide (a = b)) (g : ∀ a, Good k (enc a)) (hk : k ≤ 63) (x : α) (l : List α) : inD (enc x) (.list (l.map enc)) = some (l.any fun z => decide (z = x)) := by
  have g1 := (Good.list (Good.map g l)).shaped (by omega)
  have g2 := (g x).shaped (by omega)
  unfold inD
  dsimp only
  rw [g1, g2, any_encA h]
  rfl
section
variable {n : Nms} {fs : List Nat} {ds : List Day}
theorem o_inEv (e : Ev) (l : Day) : cmpD .In (evD n e) (dayD n l) = some (memEv e l) := in_listA (ev_eqv n) (good_ev n) (by decide) e l
theorem o_notinEv (e : Ev) (l : Day) : cmpD .NotIn (evD n e) (dayD n l) = some (!memEv e l) := by
  show (cmpD .In (evD n e) (dayD n l)).map (!·) = _
  rw [o_inEv]
  rfl
def lawTwo (es : Day) (t : Tw) (a b : Nat) : Bool := match idx (true, a) es, idx (false, a) es, idx (true, b) es, idx (false, b) es with
  | some ca, some la, some cb, some lb => (match t with
    | .met => decide (ca < lb) && decide (cb < la)
    | .saw => decide (cb < ca) && decide (ca < lb)
    | .kept => decide (cb < la) && decide (la < lb)
    | .first => decide (ca < cb)
    | .sooner => decide (la < lb))
  | _, _, _, _ => false
def lawCnt (es : Day) (b : Bool) (w : Nat) : Nat := if b then (lawIn es ((idx (true, w) es).getD 0)).length else (lawIn es ((idx (false, w) es).getD 0 + 1)).length
def sameLook (fs : List Nat) (es : Day) : Bool := fs.all fun a => decide (((lawCnt es true a : Nat) : Int) = cntP es true a) && decide (((lawCnt es false a : Nat) : Int) = cntP es false a) && fs.all fun b => decide (a = b) || ([Tw.met, .saw, .kept, .first, .sooner].all fun t => lawTwo es t a b == twoP es t a b)
end
end TD
namespace TD
open PySem
def lexB {α : Type} [DecidableEq α] (lt : α → α → Bool) : List α → List α → Bool
  | [], [] => false
  | [], _ :: _ => true
  | _ :: _, [] => false
  | a :: as, b :: bs => if a = b then lexB lt as bs else lt a b
theorem rowLt_nil : PyProof.Rows.lexLt PyProof.Rows.itemOrd (PySem.W.keyToksAll []) (PySem.W.keyToksAll []) = false := PyProof.Rows.lex_irrefl _
theorem rowLt_l (y : D) (ys : List D) : PyProof.Rows.lexLt PyProof.Rows.itemOrd (PySem.W.keyToksAll []) (PySem.W.keyToksAll (y :: ys)) = true := by
  rw [PySem.W.toks_all_cons]
  simp only [PySem.W.keyToksAll]
  rw [PyProof.Rows.lex_diff (O := PyProof.Rows.itemOrd) (by simp)]
  rfl
theorem rowLt_r (y : D) (ys : List D) : PyProof.Rows.lexLt PyProof.Rows.itemOrd (PySem.W.keyToksAll (y :: ys)) (PySem.W.keyToksAll []) = false := by
  rw [PySem.W.toks_all_cons]
  simp only [PySem.W.keyToksAll]
  rw [PyProof.Rows.lex_diff (O := PyProof.Rows.itemOrd) (by simp)]
  rfl
theorem rowLt_map {α : Type} [DecidableEq α] {enc : α → D} {lt : α → α → Bool} (hl : ∀ a b, PySem.W.dataLt (enc a) (enc b) = lt a b) (ha : ∀ a b, PySem.W.alike (enc a) (enc b) = true) (he : ∀ a b, PyData.eqv (enc a) (enc b) = decide (a = b)) :
    ∀ as bs : List α, PyProof.Rows.lexLt PyProof.Rows.itemOrd (PySem.W.keyToksAll (as.map enc)) (PySem.W.keyToksAll (bs.map enc)) = lexB lt as bs
  | [], [] => rowLt_nil
  | [], b :: bs => rowLt_l _ _
  | a :: as, [] => rowLt_r _ _
  | a :: as, b :: bs => by
    rw [List.map_cons, List.map_cons, PySem.W.dataLt_cons (ha a b), he, rowLt_map hl ha he as bs, hl, lexB]
    by_cases h : a = b
    · simp [h]
    · simp [h]
theorem alike_map {α : Type} {enc : α → D} (ha : ∀ a b, PySem.W.alike (enc a) (enc b) = true) : ∀ as bs : List α, PySem.W.alikeAll (as.map enc) (bs.map enc) = true
  | [], bs => by cases bs <;> rfl
  | a :: as, [] => rfl
  | a :: as, b :: bs => by
    rw [List.map_cons, List.map_cons, PySem.W.alikeAll, ha, alike_map ha as bs]
    rfl
def ltEv (a b : Ev) : Bool := if a.1 = b.1 then decide (a.2 < b.2) else a.1
theorem dataLt_nm (n : Nms) (i j : Nat) : PySem.W.dataLt (nmD n i) (nmD n j) = decide (i < j) := by
  unfold nmD
  rw [PySem.W.dataLt_str, n.mono]
theorem dataLt_word : ∀ a b : Bool, a ≠ b → PySem.W.dataLt (wordD a) (wordD b) = a := by
  intro a b h
  cases a <;> cases b <;> first | exact absurd rfl h | decide +kernel
theorem dataLt_ev (n : Nms) (a b : Ev) : PySem.W.dataLt (evD n a) (evD n b) = ltEv a b := by
  obtain ⟨a1, a2⟩ := a
  obtain ⟨b1, b2⟩ := b
  unfold evD
  rw [PySem.W.dataLt_pair rfl rfl, word_eqv, nm_eqv, dataLt_nm]
  unfold ltEv
  dsimp only
  by_cases h : a1 = b1
  · by_cases h2 : a2 = b2
    · subst h h2
      simp
    · simp [h, h2]
  · rw [dataLt_word a1 b1 h]
    simp [h]
def ltDay (a b : Day) : Bool := lexB ltEv a b
theorem alike_ev (n : Nms) (a b : Ev) : PySem.W.alike (evD n a) (evD n b) = true := rfl
theorem dataLt_day (n : Nms) (a b : Day) : PySem.W.dataLt (dayD n a) (dayD n b) = ltDay a b := by
  unfold dayD
  rw [PySem.W.dataLt_list]
  exact rowLt_map (dataLt_ev n) (alike_ev n) (ev_eqv n) a b
def leDay (a b : Day) : Bool := !ltDay b a
theorem alike_day (n : Nms) (a b : Day) : PySem.W.alike (dayD n a) (dayD n b) = true := alike_map (alike_ev n) a b
theorem sort_days (n : Nms) (l : List Day) : sortedD [daysD n l] = some (daysD n (isort leDay l)) :=
  sort_enc (enc := dayD n) (le := leDay) (fun a b => by unfold leD leDay; rw [dataLt_day]) (good_day n) (by decide) (alike_day n) (.inr fun _ => rfl) l
def lawStep (row : Day) (w : Nat) : List Day := if memEv (true, w) row then (if memEv (false, w) row then [] else [row ++ [(false, w)]]) else [row ++ [(true, w)]]
def lawNext (fs : List Nat) (row : Day) : List Day := fs.flatMap (lawStep row)
def lawRows (fs : List Nat) : Nat → List Day
  | 0 => [[]]
  | t + 1 => (lawRows fs t).flatMap (lawNext fs)
theorem lawStep_len {row d : Day} {w : Nat} (h : d ∈ lawStep row w) : d.length = row.length + 1 := by
  unfold lawStep at h
  split at h
  · split at h
    · cases h
    · simp at h; subst h; simp
  · simp at h; subst h; simp
theorem lawRows_len {fs : List Nat} : ∀ {t : Nat} {d : Day}, d ∈ lawRows fs t → d.length = t
  | 0, d, h => by unfold lawRows at h; simp at h; subst h; rfl
  | t + 1, d, h => by
    unfold lawRows at h
    obtain ⟨row, h1, h2⟩ := List.mem_flatMap.mp h
    obtain ⟨w, _, h3⟩ := List.mem_flatMap.mp h2
    rw [lawStep_len h3, lawRows_len h1]
section
variable {n : Nms} {fs : List Nat} {ds : List Day}
theorem day1 (e : Ev) : (PyData.list [evD n e] : D) = dayD n [e] := rfl
theorem lad_B1 {k : Nat} {s1 s2 : Sl} (v1 : Vn s1) (v2 : Vn s2) {L : List Day} {row : Day} {w : Nat} (h1 : L.length < 90000) (h2 : row.length < 90000) : c_law_all_days_B1 (runK tb k) [.val (nsT n fs), s1, s2, .own (L.map (dayD n)), .val (dayD n row), .val (nmD n w)] = .ok .next [.val (nsT n fs), s1, s2, .own ((L ++ lawStep row w).map (dayD n)), .val (dayD n row), .val (nmD n w)] := by
  have hl : (L.map (dayD n)).length < lim := by rw [List.length_map]; unfold lim; omega
  have hc : ∀ e : Ev, opD .Add (dayD n row) (dayD n [e]) = some (dayD n (row ++ [e])) := fun e => cat_day (by simp; unfold lim; omega)
  unfold c_law_all_days_B1 lawStep
  cases q1 : memEv (true, w) row with
  | false =>
    rcases v1 with rfl | ⟨d1, rfl⟩ <;> rcases v2 with rfl | ⟨d2, rfl⟩ <;> simp! only [tup_comes, tup_leaves, o_notinEv, q1, day1, hc, hl, List.map_append]
  | true =>
    cases q2 : memEv (false, w) row with
    | false =>
      rcases v1 with rfl | ⟨d1, rfl⟩ <;> rcases v2 with rfl | ⟨d2, rfl⟩ <;> simp! only [tup_comes, tup_leaves, o_notinEv, q1, q2, day1, hc, hl, List.map_append]
    | true =>
      rcases v1 with rfl | ⟨d1, rfl⟩ <;> rcases v2 with rfl | ⟨d2, rfl⟩ <;> simp! only [tup_comes, tup_leaves, o_notinEv, q1, q2, List.append_nil]
theorem lad_L1 {k : Nat} {s1 s2 : Sl} (v1 : Vn s1) (v2 : Vn s2) {row : Day} (h2 : row.length < 90000) : ∀ (r : List Nat) (L : List Day) (s5 : Sl), Vn s5 → L.length + (r.flatMap (lawStep row)).length < 90000 →
    ∃ s5', Vn s5' ∧ forL (asgP 3 (.nm 5)) (c_law_all_days_B1 (runK tb k)) (r.map (nmD n)) [.val (nsT n fs), s1, s2, .own (L.map (dayD n)), .val (dayD n row), s5] = .ok .next [.val (nsT n fs), s1, s2, .own ((L ++ r.flatMap (lawStep row)).map (dayD n)), .val (dayD n row), s5']
  | [], L, s5, h5, _ => ⟨s5, h5, by simp only [List.flatMap_nil, List.append_nil]; rfl⟩
  | w :: r, L, s5, h5, hl => by
    rw [List.flatMap_cons, List.length_append] at hl
    obtain ⟨s5', g5, ih⟩ := lad_L1 (k := k) (s1 := s1) (s2 := s2) v1 v2 h2 r (L ++ lawStep row w) (.val (nmD n w)) (.v _) (by rw [List.length_append]; omega)
    refine ⟨s5', g5, ?_⟩
    have ha : asgP 3 (.nm 5) (nmD n w) [.val (nsT n fs), s1, s2, .own (L.map (dayD n)), .val (dayD n row), s5] = .ok () [.val (nsT n fs), s1, s2, .own (L.map (dayD n)), .val (dayD n row), .val (nmD n w)] := by
      rcases h5 with rfl | ⟨d, rfl⟩ <;> simp! only []
    rw [List.map_cons, forL, bnd_of ha, bnd_of (lad_B1 (k := k) v1 v2 (by omega) h2)]
    dsimp only
    rw [ih, List.flatMap_cons, List.append_assoc]
theorem lad_L2 {k : Nat} {s1 s2 : Sl} (v1 : Vn s1) (v2 : Vn s2) : ∀ (rows : List Day) (L : List Day) (s4 s5 : Sl), Vn s4 → Vn s5 → (∀ d ∈ rows, d.length < 90000) → L.length + (rows.flatMap (lawNext fs)).length < 90000 →
    ∃ s4' s5', Vn s4' ∧ Vn s5' ∧ forL (asgP 3 (.nm 4)) (c_law_all_days_B2 (runK tb k)) (rows.map (dayD n)) [.val (nsT n fs), s1, s2, .own (L.map (dayD n)), s4, s5] = .ok .next [.val (nsT n fs), s1, s2, .own ((L ++ rows.flatMap (lawNext fs)).map (dayD n)), s4', s5']
  | [], L, s4, s5, h4, h5, _, _ => ⟨s4, s5, h4, h5, by simp only [List.flatMap_nil, List.append_nil]; rfl⟩
  | row :: rows, L, s4, s5, h4, h5, hr, hl => by
    rw [List.flatMap_cons, List.length_append] at hl
    have ha : asgP 3 (.nm 4) (dayD n row) [.val (nsT n fs), s1, s2, .own (L.map (dayD n)), s4, s5] = .ok () [.val (nsT n fs), s1, s2, .own (L.map (dayD n)), .val (dayD n row), s5] := by
      rcases h4 with rfl | ⟨d, rfl⟩ <;> simp! only []
    obtain ⟨t5, g5, e1⟩ := lad_L1 (n := n) (fs := fs) (k := k) v1 v2 (row := row) (hr row (by simp)) fs L s5 h5 (by unfold lawNext at hl; omega)
    have hb : c_law_all_days_B2 (runK tb k) [.val (nsT n fs), s1, s2, .own (L.map (dayD n)), .val (dayD n row), s5] = .ok .next [.val (nsT n fs), s1, s2, .own ((L ++ lawNext fs row).map (dayD n)), .val (dayD n row), t5] := by
      unfold c_law_all_days_B2
      simp! only [seq_nsT, e1]
      rfl
    obtain ⟨u4, u5, w4, w5, ih⟩ := lad_L2 (k := k) (s1 := s1) (s2 := s2) v1 v2 rows (L ++ lawNext fs row) (.val (dayD n row)) t5 (.v _) g5 (fun d hd => hr d (by simp [hd])) (by rw [List.length_append]; omega)
    refine ⟨u4, u5, w4, w5, ?_⟩
    rw [List.map_cons, forL, bnd_of ha, bnd_of hb]
    dsimp only
    rw [ih, List.flatMap_cons, List.append_assoc]
theorem lad_B3 {k : Nat} {rows : List Day} {s1 s2 s3 s4 s5 : Sl} (h1 : s1 = .own (rows.map (dayD n)) ∨ s1 = .val (daysD n rows)) (v2 : Vn s2) (h3 : Vn s3) (h4 : Vn s4) (h5 : Vn s5) (hr : ∀ d ∈ rows, d.length < 90000) (hl : (rows.flatMap (lawNext fs)).length < 90000) :
    ∃ s3' s4' s5', Vn s3' ∧ Vn s4' ∧ Vn s5' ∧ c_law_all_days_B3 (runK tb k) [.val (nsT n fs), s1, s2, s3, s4, s5] = .ok .next [.val (nsT n fs), .val (daysD n (rows.flatMap (lawNext fs))), s2, s3', s4', s5'] := by
  obtain ⟨u4, u5, w4, w5, e⟩ := lad_L2 (n := n) (fs := fs) (k := k) (s1 := .val (daysD n rows)) (s2 := s2) (.v _) v2 rows [] s4 s5 h4 h5 hr (by simpa using hl)
  rw [List.map_nil, List.nil_append] at e
  refine ⟨.val (daysD n (rows.flatMap (lawNext fs))), u4, u5, .v _, w4, w5, ?_⟩
  unfold c_law_all_days_B3
  have sq : seqOf (daysD n rows) = some (rows.map (dayD n)) := rfl
  have sq' : (PyData.list (rows.map (dayD n)) : D) = daysD n rows := rfl
  have sq2 : (PyData.list ((rows.flatMap (lawNext fs)).map (dayD n)) : D) = daysD n (rows.flatMap (lawNext fs)) := rfl
  rcases h1 with rfl | rfl
  · rcases v2 with rfl | ⟨d2, rfl⟩ <;> rcases h3 with rfl | ⟨d, rfl⟩ <;> rcases w4 with rfl | ⟨d4, rfl⟩ <;> rcases w5 with rfl | ⟨d5, rfl⟩ <;> simp! only [sq', sq, e, sq2]
  · rcases v2 with rfl | ⟨d2, rfl⟩ <;> rcases h3 with rfl | ⟨d, rfl⟩ <;> rcases w4 with rfl | ⟨d4, rfl⟩ <;> rcases w5 with rfl | ⟨d5, rfl⟩ <;> simp! only [sq, e, sq2]
theorem lad_L3 {k : Nat} (hb : ∀ t, t ≤ 2 * fs.length → (lawRows fs t).length < 90000) (h9 : 2 * fs.length < 90000) : ∀ (m t i0 : Nat) (s1 s2 s3 s4 s5 : Sl), t + m = 2 * fs.length → (s1 = .own ((lawRows fs t).map (dayD n)) ∨ s1 = .val (daysD n (lawRows fs t))) → Vn s2 → Vn s3 → Vn s4 → Vn s5 →
    ∃ s1' s2' s3' s4' s5', (s1' = .own ((lawRows fs (t + m)).map (dayD n)) ∨ s1' = .val (daysD n (lawRows fs (t + m)))) ∧ Vn s2' ∧ Vn s3' ∧ Vn s4' ∧ Vn s5' ∧ forL (asgP 3 (.nm 2)) (c_law_all_days_B3 (runK tb k)) ((List.range' i0 m).map fun i : Nat => (PyData.int (i : Nat) : D)) [.val (nsT n fs), s1, s2, s3, s4, s5] = .ok .next [.val (nsT n fs), s1', s2', s3', s4', s5']
  | 0, t, i0, s1, s2, s3, s4, s5, _, h1, h2, h3, h4, h5 => ⟨s1, s2, s3, s4, s5, h1, h2, h3, h4, h5, rfl⟩
  | m + 1, t, i0, s1, s2, s3, s4, s5, ht, h1, h2, h3, h4, h5 => by
    have ha : asgP 3 (.nm 2) (.int (i0 : Nat)) [.val (nsT n fs), s1, s2, s3, s4, s5] = .ok () [.val (nsT n fs), s1, .val (.int (i0 : Nat)), s3, s4, s5] := by
      rcases h2 with rfl | ⟨d, rfl⟩ <;> simp! only []
    obtain ⟨u3, u4, u5, w3, w4, w5, e⟩ := lad_B3 (n := n) (fs := fs) (k := k) (s2 := .val (.int (i0 : Nat))) h1 (.v _) h3 h4 h5 (fun d hd => by rw [lawRows_len hd]; omega) (hb (t + 1) (by omega))
    obtain ⟨r1, r2, r3, r4, r5, g1, g2, g3, g4, g5, ih⟩ := lad_L3 (k := k) hb h9 m (t + 1) (i0 + 1) (.val (daysD n (lawRows fs (t + 1)))) (.val (.int (i0 : Nat))) u3 u4 u5 (by omega) (.inr rfl) (.v _) w3 w4 w5
    rw [show t + 1 + m = t + (m + 1) by omega] at g1
    refine ⟨r1, r2, r3, r4, r5, g1, g2, g3, g4, g5, ?_⟩
    rw [List.range'_succ, List.map_cons, forL, bnd_of ha, bnd_of e]
    exact ih
theorem r_law_all_days {k : Nat} (hb : ∀ t, t ≤ 2 * fs.length → (lawRows fs t).length < 90000) (h9 : fs.length ≤ 4) : runK tb (k + 1) "_law_all_days" [.val (nsT n fs)] = .ok (daysD n (isort leDay (lawRows fs (2 * fs.length)))) [.val (nsT n fs)] := by
  obtain ⟨r1, r2, r3, r4, r5, g1, g2, g3, g4, g5, e⟩ := lad_L3 (n := n) (k := k) hb (by omega) (2 * fs.length) 0 0 (.own ((lawRows fs 0).map (dayD n))) .non .non .non .non (by omega) (.inl rfl) .n .n .n .n
  rw [Nat.zero_add] at g1
  rw [← List.range_eq_range'] at e
  have e2 : upTo 0 (2 * ((fs.length : Nat) : Int)).toNat = (List.range (2 * fs.length)).map fun i : Nat => (PyData.int (i : Nat) : D) := by
    rw [show (2 * ((fs.length : Nat) : Int)).toNat = 2 * fs.length by omega]
    exact upTo_map _
  have sm : smallI (2 * ((fs.length : Nat) : Int)) = true := by unfold smallI; rw [decide_eq_true (by omega), decide_eq_true (by omega)]; rfl
  have e0 : (lawRows fs 0).map (dayD n) = [PyData.list []] := rfl
  rw [e0] at e
  rcases g1 with rfl | rfl
  · rw [e_law_all_days]; unfold c_law_all_days defC; simp! only [len_nsT, sm, e2, e, show (PyData.list ((lawRows fs (2 * fs.length)).map (dayD n)) : D) = daysD n (lawRows fs (2 * fs.length)) from rfl, sort_days]
    rfl
  · rw [e_law_all_days]; unfold c_law_all_days defC; simp! only [len_nsT, sm, e2, e, sort_days]
    rfl
end
end TD
namespace TD
open PySem
theorem roll_nat (k : Nat) (c m : Int) (q : Nat) (hq : 0 < q) (hq2 : q ≤ 1000000) : ∃ (j : Nat) (c' m' : Int), j < q ∧ runK tb (k + 2) "_law_roll" [.par [.int c, .int m], .val (.int (q : Nat))] = .ok (.int (j : Nat)) [.par [.int c', .int m'], .val (.int (q : Nat))] := by
  obtain ⟨r, c', m', h0, h1, h⟩ := r_law_roll k c m (q : Nat) (by omega) (by omega)
  obtain ⟨j, rfl, hj⟩ := nat_of h0 h1
  exact ⟨j, c', m', hj, h⟩
section
variable {n : Nms} {fs : List Nat} {ds : List Day}
end
end TD
namespace TD
open PySem
section
variable {n : Nms} {fs : List Nat} {ds : List Day}
theorem upTo_nat (q : Nat) (hq : q ≤ 1000) (e : En) : rng1Then (.int (q : Nat)) e = .ok ((List.range q).map fun i : Nat => (PyData.int (i : Nat) : D)) e := by
  show (if smallI (q : Nat) then ret (upTo 0 ((q : Nat) : Int).toNat) else bad) e = _
  have : smallI ((q : Nat) : Int) = true := by unfold smallI; rw [decide_eq_true (by omega), decide_eq_true (by omega)]; rfl
  rw [if_pos this, Int.toNat_natCast, upTo_map]
  rfl
end
end TD
namespace TD
open PySem
section
variable {n : Nms} {fs : List Nat} {ds : List Day}
structure Lw (fs : List Nat) (ds : List Day) : Prop where
  b : ∀ t, t ≤ 2 * fs.length → (lawRows fs t).length < 90000
  e : isort leDay (lawRows fs (2 * fs.length)) = ds
  s : ∀ d ∈ ds, sameLook fs d = true
theorem r_lad (L : Lw fs ds) (hf : fs.length ≤ 4) (k : Nat) : runK tb (k + 1) "_law_all_days" [.val (nsT n fs)] = .ok (daysD n ds) [.val (nsT n fs)] := by
  have := r_law_all_days (n := n) (k := k) L.b hf
  rw [L.e] at this
  exact this
end
end TD
namespace TD
open PySem
section
variable {n : Nms} {fs : List Nat} {ds : List Day}
end
end TD
namespace TD
open PySem
def en2 {α : Type} (l : List α) : List (Nat × α) := (List.range l.length).zip l
def enE {α : Type} (enc : α → D) (p : Nat × α) : D := .tuple [.int (p.1 : Nat), enc p.2]
theorem numbered_map {α : Type} (enc : α → D) (l : List α) : numbered (l.map enc) = (en2 l).map (enE enc) := by
  unfold numbered en2
  rw [List.length_map, List.zip_map_right, List.map_map]
  rfl
section
variable {n : Nms} {fs : List Nat} {ds : List Day}
end
end TD
namespace TD
open PySem
theorem blk_step {a : M Fl} {r : List (M Fl)} {e e' : En} (h : a e = .ok .next e') (h2 : ∃ x, blk r e' = .ok .next x) : ∃ x, blk (a :: r) e = .ok .next x := by
  obtain ⟨x, h2⟩ := h2
  refine ⟨x, ?_⟩
  show (bnd a fun y => match y with | .next => blk r | x => ret x) e = _
  rw [bnd_of h]
  exact h2
theorem blk_stop {r : List (M Fl)} {e : En} (h : r = []) : ∃ x, blk r e = .ok .next x := by
  subst h
  exact ⟨e, rfl⟩
section
variable {n : Nms} {fs : List Nat} {ds : List Day}
def dayB (fs : List Nat) (es : Day) : Bool := good fs es && ((List.range (es.length + 1)).all fun i => (who [] (es.take i)).isSome) && decide (es.length ≤ 1000) && sameLook fs es
theorem dayB_ok {es : Day} (h : dayB fs es = true) : DayOk fs es ∧ sameLook fs es = true := by
  unfold dayB at h
  simp only [Bool.and_eq_true, decide_eq_true_eq, List.all_eq_true, List.mem_range] at h
  exact ⟨⟨h.1.1.1, h.1.2, fun i hi => h.1.1.2 i (by omega)⟩, h.2⟩
def rowsB (fs : List Nat) : Bool := (List.range (2 * fs.length + 1)).all fun t => decide ((lawRows fs t).length < 90000)
theorem rowsB_ok (h : rowsB fs = true) : ∀ t, t ≤ 2 * fs.length → (lawRows fs t).length < 90000 := fun t ht => by
  unfold rowsB at h
  rw [List.all_eq_true] at h
  exact of_decide_eq_true (h t (List.mem_range.mpr (by omega)))
end
theorem dB2 : (daysR [0, 1]).all (dayB [0, 1]) = true := by kernel_rfl
theorem dB3 : (daysR [0, 1, 2]).all (dayB [0, 1, 2]) = true := by kernel_rfl
theorem rB2 : rowsB [0, 1] = true := by kernel_rfl
theorem rB3 : rowsB [0, 1, 2] = true := by kernel_rfl
theorem lB2 : isort leDay (lawRows [0, 1] 4) = daysOf [0, 1] := by kernel_rfl
theorem lB3 : isort leDay (lawRows [0, 1, 2] 6) = daysOf [0, 1, 2] := by kernel_rfl
theorem cn_of {fs : List Nat} (hf : fs ∈ folks) (he : (evr 29999 [] [([], fs, [])]).isSome = true) (hB : (daysR fs).all (dayB fs) = true) (hp : (pairsP fs).length ≤ 1000) (hl : fs.length ≤ 4) : Cn annN fs (daysOf fs) :=
  ⟨folk_ok fs hf, evd_days he, hl, fun d hd => (dayB_ok (List.all_eq_true.mp hB d (by unfold daysOf at hd; exact List.mem_reverse.mp hd))).1, hp⟩
theorem lw_of {fs : List Nat} (hB : (daysR fs).all (dayB fs) = true) (hr : rowsB fs = true) (hi : isort leDay (lawRows fs (2 * fs.length)) = daysOf fs) : Lw fs (daysOf fs) :=
  ⟨rowsB_ok hr, hi, fun d hd => (dayB_ok (List.all_eq_true.mp hB d (by unfold daysOf at hd; exact List.mem_reverse.mp hd))).2⟩
end TD
namespace TD
open PySem
section
variable {n : Nms} {fs : List Nat} {rows : List (List Bool)} {m : Nat}
end
section
variable {n : Nms} {fs : List Nat} {ds : List Day}
end
end TD
namespace TD
open PySem
theorem leD_total : PySem.W.TotalLe leD := by
  have T : PySem.W.TotalLe (PySem.W.dataLe false fun b : D => b) := PySem.W.sortLe_total _ _ _
  rw [PySem.W.dataLe_eq] at T
  exact T
theorem total_enc {α : Type} {enc : α → D} {le : α → α → Bool} (h : ∀ a b, leD (enc a) (enc b) = le a b) : PySem.W.TotalLe le :=
  ⟨fun a b c => by rw [← h, ← h, ← h]; exact leD_total.trans _ _ _, fun a b => by rw [← h, ← h]; exact leD_total.total _ _⟩
theorem isort_sorted {α : Type} {le : α → α → Bool} (T : PySem.W.TotalLe le) (l : List α) : (isort le l).Pairwise fun a b => le a b = true := by
  rw [← isort_eq T]
  exact PySem.W.sort_pairwise T l
end TD
namespace TD
open PySem
noncomputable def mgL {α : Type} (le : α → α → Bool) : List α → List α → List α
  | [] => fun bs => bs
  | a :: as => fun bs => List.rec (a :: as) (fun b bs' ih => if le a b then a :: mgL le as (b :: bs') else b :: ih) bs
def halves {α : Type} : List α → List α × List α
  | [] => ([], [])
  | a :: r => let p := halves r; (a :: p.2, p.1)
noncomputable def msort {α : Type} (le : α → α → Bool) : Nat → List α → List α
  | 0, l => l
  | k + 1, l => match l with
    | [] => []
    | [a] => [a]
    | l => let p := halves l; mgL le (msort le k p.1) (msort le k p.2)
theorem mg_perm {α : Type} (le : α → α → Bool) : ∀ as bs : List α, (mgL le as bs).Perm (as ++ bs)
  | [], bs => List.Perm.refl _
  | a :: as, bs => by
    induction bs with
    | nil => rw [List.append_nil]; exact List.Perm.refl _
    | cons b bs ih =>
      show (if le a b then a :: mgL le as (b :: bs) else b :: mgL le (a :: as) bs).Perm _
      split
      · exact (mg_perm le as (b :: bs)).cons a
      · exact (ih.cons b).trans (List.perm_middle.symm)
theorem halves_perm {α : Type} : ∀ l : List α, ((halves l).1 ++ (halves l).2).Perm l
  | [] => List.Perm.refl _
  | a :: r => by
    show (a :: (halves r).2 ++ (halves r).1).Perm (a :: r)
    exact (List.perm_append_comm.trans (halves_perm r)).cons a
theorem msort_perm {α : Type} (le : α → α → Bool) : ∀ (k : Nat) (l : List α), (msort le k l).Perm l
  | 0, l => List.Perm.refl _
  | k + 1, [] => List.Perm.refl _
  | k + 1, [a] => List.Perm.refl _
  | k + 1, a :: b :: r => by
    show (mgL le (msort le k (halves (a :: b :: r)).1) (msort le k (halves (a :: b :: r)).2)).Perm _
    exact (mg_perm le _ _).trans (((msort_perm le k _).append (msort_perm le k _)).trans (halves_perm _))
theorem ins_permG {α : Type} (le : α → α → Bool) (a : α) : ∀ l : List α, (ins le a l).Perm (a :: l)
  | [] => List.Perm.refl _
  | b :: r => by
    show (if le a b then a :: b :: r else b :: ins le a r).Perm _
    split
    · exact List.Perm.refl _
    · exact ((ins_permG le a r).cons b).trans (List.Perm.swap a b r)
theorem isort_permG {α : Type} (le : α → α → Bool) : ∀ l : List α, (isort le l).Perm l
  | [] => List.Perm.refl _
  | a :: l => (ins_permG le a _).trans ((isort_permG le l).cons a)
def stepB {α : Type} (le : α → α → Bool) : List α → Bool
  | a :: b :: r => le a b && stepB le (b :: r)
  | _ => true
theorem step_sorted {α : Type} {le : α → α → Bool} (T : PySem.W.TotalLe le) : ∀ l : List α, stepB le l = true → l.Pairwise fun a b => le a b = true
  | [], _ => List.Pairwise.nil
  | [a], _ => List.pairwise_singleton _ _
  | a :: b :: r, h => by
    unfold stepB at h
    rw [Bool.and_eq_true] at h
    have ih := step_sorted T (b :: r) h.2
    refine List.Pairwise.cons (fun c hc => ?_) ih
    rcases List.mem_cons.mp hc with rfl | hc
    · exact h.1
    · exact T.trans _ _ _ h.1 ((List.pairwise_cons.mp ih).1 c hc)
theorem isort_is {α : Type} {le : α → α → Bool} (T : PySem.W.TotalLe le) (anti : ∀ a b, le a b = true → le b a = true → a = b) {l l' : List α} (hp : l'.Perm l) (hs : stepB le l' = true) : isort le l = l' :=
  List.Perm.eq_of_pairwise (fun a b _ _ h1 h2 => anti a b h1 h2) (isort_sorted T l) (step_sorted T l' hs) ((isort_permG le l).trans hp.symm)
theorem leDay_total : PySem.W.TotalLe leDay := total_enc (enc := dayD annN) (fun a b => by unfold leD leDay; rw [dataLt_day])
theorem lexB_tri {α : Type} [DecidableEq α] {lt : α → α → Bool} (h : ∀ a b, lt a b = false → lt b a = false → a = b) : ∀ a b : List α, lexB lt a b = false → lexB lt b a = false → a = b
  | [], [], _, _ => rfl
  | [], _ :: _, h1, _ => by cases h1
  | _ :: _, [], _, h2 => by cases h2
  | a :: as, b :: bs, h1, h2 => by
    unfold lexB at h1 h2
    by_cases e : a = b
    · subst e
      rw [if_pos rfl] at h1 h2
      rw [lexB_tri h as bs h1 h2]
    · rw [if_neg e] at h1
      rw [if_neg (fun x => e x.symm)] at h2
      exact absurd (h a b h1 h2) e
theorem leDay_anti (a b : Day) (h1 : leDay a b = true) (h2 : leDay b a = true) : a = b := by
  unfold leDay ltDay at h1 h2
  rw [Bool.not_eq_true'] at h1 h2
  refine lexB_tri (fun x y hx hy => ?_) a b h2 h1
  obtain ⟨x1, x2⟩ := x
  obtain ⟨y1, y2⟩ := y
  unfold ltEv at hx hy
  dsimp only at hx hy
  by_cases e : x1 = y1
  · subst e
    rw [if_pos rfl, decide_eq_false_iff_not] at hx hy
    rw [show x2 = y2 by omega]
  · rw [if_neg e] at hx
    rw [if_neg (fun z => e z.symm)] at hy
    rw [hx, hy] at e
    exact absurd rfl e
theorem sB4 : stepB leDay (daysOf [0, 1, 2, 3]) = true := by kernel_rfl
theorem mB4 : msort leDay 12 (lawRows [0, 1, 2, 3] 8) = daysOf [0, 1, 2, 3] := by kernel_rfl
theorem lB4 : isort leDay (lawRows [0, 1, 2, 3] 8) = daysOf [0, 1, 2, 3] := isort_is leDay_total leDay_anti (by rw [← mB4]; exact msort_perm _ _ _) sB4
theorem rB4 : rowsB [0, 1, 2, 3] = true := by kernel_rfl
theorem all_chunks {α : Type} {p : α → Bool} {n : Nat} : ∀ (m : Nat) (l : List α), l.length ≤ n * m → (∀ i, i < m → ((l.drop (n * i)).take n).all p = true) → l.all p = true
  | 0, l, hl, _ => by
    have : l = [] := List.length_eq_zero_iff.mp (by omega)
    rw [this]
    rfl
  | m + 1, l, hl, h => by
    have h0 := h 0 (by omega)
    rw [Nat.mul_zero, List.drop_zero] at h0
    have ih := all_chunks m (l.drop n) (by rw [List.length_drop]; exact Nat.sub_le_of_le_add hl) (fun i hi => by
      rw [List.drop_drop, show n + n * i = n * (i + 1) by rw [Nat.mul_succ, Nat.add_comm]]
      exact h (i + 1) (by omega))
    rw [← List.take_append_drop n l, List.all_append, h0, ih]
    rfl
theorem dB4_0 : (((daysR [0, 1, 2, 3]).drop 0).take 210).all (dayB [0, 1, 2, 3]) = true := by kernel_rfl
theorem dB4_1 : (((daysR [0, 1, 2, 3]).drop 210).take 210).all (dayB [0, 1, 2, 3]) = true := by kernel_rfl
theorem dB4_2 : (((daysR [0, 1, 2, 3]).drop 420).take 210).all (dayB [0, 1, 2, 3]) = true := by kernel_rfl
theorem dB4_3 : (((daysR [0, 1, 2, 3]).drop 630).take 210).all (dayB [0, 1, 2, 3]) = true := by kernel_rfl
theorem dB4_4 : (((daysR [0, 1, 2, 3]).drop 840).take 210).all (dayB [0, 1, 2, 3]) = true := by kernel_rfl
theorem dB4_5 : (((daysR [0, 1, 2, 3]).drop 1050).take 210).all (dayB [0, 1, 2, 3]) = true := by kernel_rfl
theorem dB4_6 : (((daysR [0, 1, 2, 3]).drop 1260).take 210).all (dayB [0, 1, 2, 3]) = true := by kernel_rfl
theorem dB4_7 : (((daysR [0, 1, 2, 3]).drop 1470).take 210).all (dayB [0, 1, 2, 3]) = true := by kernel_rfl
theorem dB4_8 : (((daysR [0, 1, 2, 3]).drop 1680).take 210).all (dayB [0, 1, 2, 3]) = true := by kernel_rfl
theorem dB4_9 : (((daysR [0, 1, 2, 3]).drop 1890).take 210).all (dayB [0, 1, 2, 3]) = true := by kernel_rfl
theorem dB4_10 : (((daysR [0, 1, 2, 3]).drop 2100).take 210).all (dayB [0, 1, 2, 3]) = true := by kernel_rfl
theorem dB4_11 : (((daysR [0, 1, 2, 3]).drop 2310).take 210).all (dayB [0, 1, 2, 3]) = true := by kernel_rfl
theorem chunk12 {p : Nat → Prop} (h0 : p 0) (h1 : p 1) (h2 : p 2) (h3 : p 3) (h4 : p 4) (h5 : p 5) (h6 : p 6) (h7 : p 7) (h8 : p 8) (h9 : p 9) (h10 : p 10) (h11 : p 11) : ∀ i, i < 12 → p i
  | 0, _ => h0
  | 1, _ => h1
  | 2, _ => h2
  | 3, _ => h3
  | 4, _ => h4
  | 5, _ => h5
  | 6, _ => h6
  | 7, _ => h7
  | 8, _ => h8
  | 9, _ => h9
  | 10, _ => h10
  | 11, _ => h11
  | n + 12, h => absurd h (by omega)
theorem dB4 : (daysR [0, 1, 2, 3]).all (dayB [0, 1, 2, 3]) = true := all_chunks (n := 210) 12 _ (by rw [len4]; decide) (chunk12 dB4_0 dB4_1 dB4_2 dB4_3 dB4_4 dB4_5 dB4_6 dB4_7 dB4_8 dB4_9 dB4_10 dB4_11)
theorem ctx4 {fs : List Nat} (h : fs ∈ folks) : Cn annN fs (daysOf fs) ∧ Lw fs (daysOf fs) ∧ fs.Nodup ∧ 2 ≤ fs.length ∧ fs.length ≤ 4 := by
  have hf := h
  unfold folks at h
  simp only [List.mem_cons, List.not_mem_nil, or_false] at h
  rcases h with rfl | rfl | rfl
  · exact ⟨cn_of hf ev2 dB2 (by decide) (by decide), lw_of dB2 rB2 lB2, by decide, by decide, by decide⟩
  · exact ⟨cn_of hf ev3 dB3 (by decide) (by decide), lw_of dB3 rB3 lB3, by decide, by decide, by decide⟩
  · exact ⟨cn_of hf ev4 dB4 (by decide) (by decide), lw_of dB4 rB4 lB4, by decide, by decide, by decide⟩
end TD
namespace TD
open PySem
section
variable {n : Nms} {fs : List Nat} {ds : List Day}
end
end TD
namespace TD
open PySem
theorem q_neDay (n : Nms) (a b : Day) : cmpD .NotEq (dayD n a) (dayD n b) = some (!decide (a = b)) := by rw [cmp_ne (good_day n a) (good_day n b), day_eqv]
theorem x_neg1 (i : Int) (e : En) : negM (.int i) e = .ok (.int (-i)) e := rfl
end TD
namespace TD
open PySem
def nextP (fs : List Nat) (es : Day) : Day :=
  ((fs.filter fun w => !decide (w ∈ fs.filter fun w => memEv (true, w) es)).map fun w => (true, w)) ++ (((fs.filter fun w => memEv (true, w) es).filter fun w => !memEv (false, w) es).map fun w => (false, w))
section
variable {n : Nms} {fs : List Nat} {ds : List Day}
theorem o_notinNs {n : Nms} (a : Nat) (l : List Nat) : cmpD .NotIn (nmD n a) (nsL n l) = some (!decide (a ∈ l)) := by
  show (cmpD .In (nmD n a) (nsL n l)).map (!·) = _
  rw [o_inNs]
  rfl
theorem ev_t (w : Nat) : (PyData.tuple [.str "comes", nmD n w] : D) = evD n (true, w) := rfl
theorem ev_f (w : Nat) : (PyData.tuple [.str "leaves", nmD n w] : D) = evD n (false, w) := rfl
theorem nextP_len (es : Day) : (nextP fs es).length ≤ 2 * fs.length := by
  unfold nextP
  rw [List.length_append, List.length_map, List.length_map]
  have h1 := List.length_filter_le (fun w => !decide (w ∈ fs.filter fun w => memEv (true, w) es)) fs
  have h2 := List.length_filter_le (fun w => !memEv (false, w) es) (fs.filter fun w => memEv (true, w) es)
  have h3 := List.length_filter_le (fun w => memEv (true, w) es) fs
  omega
theorem r_next_events {es : Day} (hf : fs.length ≤ 1000) (k : Nat) : runK tb (k + 1) "next_events" [.val (nsT n fs), .val (dayD n es)] = .ok (dayD n (nextP fs es)) [.val (nsT n fs), .val (dayD n es)] := by
  have h1 : c_next_events_C1 (runK tb k) [.val (nsT n fs), .val (dayD n es), .non, .non, .non, .non] = .ok (nsL n (fs.filter fun w => memEv (true, w) es)) [.val (nsT n fs), .val (dayD n es), .non, .non, .non, .non] := by
    refine (compM_map (es := fs) (enc := nmD n) (p := fun w => memEv (true, w) es) (f := nmD n) (env' := [.val (nsT n fs), .val (dayD n es), .non, .non, .non, .non]) (env1 := fun w => [.val (nsT n fs), .val (dayD n es), .non, .non, .non, .val (nmD n w)]) ?_ rfl rfl (fun a _ => rfl) (fun q hq => ?_) (fun b _ _ => ?_) (fun a _ => rfl)).trans rfl
    · simp! only []
    · simp! only [ev_t, o_inEv]
    · simp! only []
  have h2 : ∀ l : List Nat, c_next_events_C2 (runK tb k) [.val (nsT n fs), .val (dayD n es), .val (nsL n l), .non, .non, .non] = .ok (nsL n (l.filter fun w => !memEv (false, w) es)) [.val (nsT n fs), .val (dayD n es), .val (nsL n l), .non, .non, .non] := fun l => by
    refine (compM_map (es := l) (enc := nmD n) (p := fun w => !memEv (false, w) es) (f := nmD n) (env' := [.val (nsT n fs), .val (dayD n es), .val (nsL n l), .non, .non, .non]) (env1 := fun w => [.val (nsT n fs), .val (dayD n es), .val (nsL n l), .non, .non, .val (nmD n w)]) ?_ rfl rfl (fun a _ => rfl) (fun q hq => ?_) (fun b _ _ => ?_) (fun a _ => rfl)).trans rfl
    · simp! only []
    · simp! only [ev_f, o_notinEv]
    · simp! only []
  have h3 : ∀ (l : List Nat) (s : Sl), c_next_events_C3 (runK tb k) [.val (nsT n fs), .val (dayD n es), .val (nsL n l), s, .non, .non] = .ok (dayD n ((fs.filter fun w => !decide (w ∈ l)).map fun w => (true, w))) [.val (nsT n fs), .val (dayD n es), .val (nsL n l), s, .non, .non] := fun l s => by
    refine (compM_map (es := fs) (enc := nmD n) (p := fun w => !decide (w ∈ l)) (f := fun w => evD n (true, w)) (env' := [.val (nsT n fs), .val (dayD n es), .val (nsL n l), s, .non, .non]) (env1 := fun w => [.val (nsT n fs), .val (dayD n es), .val (nsL n l), s, .non, .val (nmD n w)]) ?_ rfl rfl (fun a _ => rfl) (fun q hq => ?_) (fun b _ _ => ?_) (fun a _ => rfl)).trans ?_
    · simp! only []
    · simp! only [o_notinNs]
    · simp! only [ev_t]
    · unfold dayD
      rw [List.map_map]
      rfl
  have h4 : ∀ (l : List Nat) (s : Sl), c_next_events_C4 (runK tb k) [.val (nsT n fs), .val (dayD n es), s, .val (nsL n l), .non, .non] = .ok (dayD n (l.map fun w => (false, w))) [.val (nsT n fs), .val (dayD n es), s, .val (nsL n l), .non, .non] := fun l s => by
    refine (compM_each (es := l) (enc := nmD n) (f := fun w => evD n (false, w)) (env' := [.val (nsT n fs), .val (dayD n es), s, .val (nsL n l), .non, .non]) (env1 := fun w => [.val (nsT n fs), .val (dayD n es), s, .val (nsL n l), .non, .val (nmD n w)]) ?_ rfl rfl (fun a _ => rfl) (fun b _ => ?_) (fun a _ => rfl)).trans ?_
    · simp! only []
    · simp! only [ev_f]
    · unfold dayD
      rw [List.map_map]
      rfl
  have hl := nextP_len (fs := fs) es
  unfold nextP at hl ⊢
  rw [List.length_append] at hl
  have hc := cat_day (n := n) (a := (fs.filter fun w => !decide (w ∈ fs.filter fun w => memEv (true, w) es)).map fun w => (true, w)) (b := ((fs.filter fun w => memEv (true, w) es).filter fun w => !memEv (false, w) es).map fun w => (false, w)) (by unfold lim; omega)
  rw [e_next_events]; unfold c_next_events defC; simp! only [h1, h2, h3, h4, hc]
  rfl
def waysP : Nat → Nat → Nat → Nat
  | 0, _, _ => 0
  | f + 1, o, h => if o = 0 ∧ h = 0 then 1 else (if 0 < o then o * waysP f (o - 1) (h + 1) else 0) + (if 0 < h then h * waysP f o (h - 1) else 0)
theorem small_nat {i : Nat} (h : i ≤ 1000) : smallM ((i : Nat) : Int) = true := by
  unfold smallM
  simp only [Bool.and_eq_true, decide_eq_true_eq]
  omega
theorem r_ways_on : ∀ (f o h k : Nat), 2 * o + h < f → o ≤ 500 → h ≤ 500 → f ≤ 100 → runK tb (k + f) "ways_on" [.val (.int (o : Nat)), .val (.int (h : Nat))] = .ok (.int (waysP f o h : Nat)) [.val (.int (o : Nat)), .val (.int (h : Nat))]
  | 0, o, h, k, hf, _, _, _ => by omega
  | f + 1, o, h, k, hf, ho, hh, hf2 => by
    have z : ∀ m : Nat, decide (((m : Nat) : Int) = 0) = decide (m = 0) := fun m => by
      by_cases q : m = 0
      · subst q; rfl
      · rw [decide_eq_false q, decide_eq_false (by omega)]
    have p : ∀ m : Nat, decide ((0 : Int) < ((m : Nat) : Int)) = decide (0 < m) := fun m => by
      by_cases q : 0 < m
      · rw [decide_eq_true q, decide_eq_true (by omega)]
      · rw [decide_eq_false q, decide_eq_false (by omega)]
    have m1 := fun j => mul_l ((o : Nat) : Int) j (small_nat (by omega))
    have m2 := fun j => mul_l ((h : Nat) : Int) j (small_nat (by omega))
    show runK tb (k + f + 1) "ways_on" _ = _
    by_cases q1 : o = 0
    · by_cases q2 : h = 0
      · subst q1 q2
        rw [e_ways_on]; unfold c_ways_on defC; simp! only [z, decide_true]
        rfl
      · subst q1
        have r2 := r_ways_on f 0 (h - 1) k (by omega) (by omega) (by omega) (by omega)
        have s2 : ((h : Nat) : Int) - 1 = ((h - 1 : Nat) : Int) := by omega
        have d2 : decide (h = 0) = false := decide_eq_false q2
        have p2 : decide (0 < h) = true := decide_eq_true (by omega)
        have p1 : decide (0 < 0) = false := rfl
        rw [waysP, if_neg (by omega), if_neg (by omega), if_pos (by omega)]
        rw [e_ways_on]; unfold c_ways_on defC; simp! only [z, p, p1, decide_true, d2, p2, s2, r2, m2]
        show Res.ok (PyData.int (0 + ((h : Nat) : Int) * _)) _ = _
        rw [Int.zero_add, Nat.zero_add, Int.natCast_mul]
    · have d1 : decide (o = 0) = false := decide_eq_false q1
      have p1 : decide (0 < o) = true := decide_eq_true (by omega)
      have r1 := r_ways_on f (o - 1) (h + 1) k (by omega) (by omega) (by omega) (by omega)
      have s1 : ((o : Nat) : Int) - 1 = ((o - 1 : Nat) : Int) := by omega
      have s1' : ((h : Nat) : Int) + 1 = ((h + 1 : Nat) : Int) := rfl
      by_cases q2 : h = 0
      · subst q2
        have p2 : decide (0 < 0) = false := rfl
        rw [waysP, if_neg (by omega), if_pos (by omega), if_neg (by omega)]
        rw [e_ways_on]; unfold c_ways_on defC; simp! only [z, p, d1, p1, p2, s1, s1', r1, m1]
        show Res.ok (PyData.int (((o : Nat) : Int) * _ + 0)) _ = _
        rw [Int.add_zero]
        rfl
      · have d2 : decide (h = 0) = false := decide_eq_false q2
        have p2 : decide (0 < h) = true := decide_eq_true (by omega)
        have r2 := r_ways_on f o (h - 1) k (by omega) (by omega) (by omega) (by omega)
        have s2 : ((h : Nat) : Int) - 1 = ((h - 1 : Nat) : Int) := by omega
        rw [waysP, if_neg (by omega), if_pos (by omega), if_pos (by omega)]
        rw [e_ways_on]; unfold c_ways_on defC; simp! only [z, p, d1, d2, p1, p2, s1, s1', s2, r1, r2, m1, m2]
        show Res.ok (PyData.int (((o : Nat) : Int) * _ + ((h : Nat) : Int) * _)) _ = _
        rw [Int.natCast_add, Int.natCast_mul, Int.natCast_mul]
def waysT (o h : Nat) : Nat := ([[1, 1, 2, 6, 24], [1, 3, 12, 60], [6, 30, 180], [90, 630], [2520]].getD o []).getD h 0
theorem ways_tab : ∀ o, o ≤ 4 → ∀ h, h ≤ 4 → o + h ≤ 4 → waysP 9 o h = waysT o h := by decide +kernel
theorem r_ways {o h : Nat} (q : o + h ≤ 4) (k : Nat) : runK tb (k + 9) "ways_on" [.val (.int (o : Nat)), .val (.int (h : Nat))] = .ok (.int (waysT o h : Nat)) [.val (.int (o : Nat)), .val (.int (h : Nat))] := by
  rw [r_ways_on 9 o h k (by omega) (by omega) (by omega) (by omega), ways_tab o (by omega) h (by omega) q]
end
end TD
namespace TD
open PySem
section
variable {n : Nms} {fs : List Nat} {ds : List Day}
def cameN (es : Day) : Nat := (es.filter (·.1)).length
def behindO (fs : List Nat) (es : Day) : Option Nat := if cameN es ≤ fs.length ∧ es.length ≤ 2 * cameN es ∧ (fs.length - cameN es) + (2 * cameN es - es.length) ≤ 4 then some (waysT (fs.length - cameN es) (2 * cameN es - es.length)) else none
theorem r_behind {es : Day} {m : Nat} (h : behindO fs es = some m) (k : Nat) : runK tb (k + 10) "behind" [.val (nsT n fs), .val (dayD n es)] = .ok (.int (m : Nat)) [.val (nsT n fs), .val (dayD n es)] := by
  unfold behindO at h
  split at h
  · rename_i hc
    cases h
    have hC : c_behind_C1 (runK tb (k + 9)) [.val (nsT n fs), .val (dayD n es), .non, .non, .non] = .ok (dayD n (es.filter (·.1))) [.val (nsT n fs), .val (dayD n es), .non, .non, .non] := by
      refine (compM_map (es := es) (enc := evD n) (p := fun e => e.1) (f := evD n) (env' := [.val (nsT n fs), .val (dayD n es), .non, .non, .non]) (env1 := fun e => [.val (nsT n fs), .val (dayD n es), .non, .non, .val (evD n e)]) ?_ rfl rfl (fun a _ => rfl) (fun q hq => ?_) (fun b _ _ => ?_) (fun a _ => rfl)).trans rfl
      · simp! only []
      · simp! only []
      · simp! only []
    have hw := r_ways (o := fs.length - cameN es) (h := 2 * cameN es - es.length) hc.2.2 k
    have e1 : ((fs.length : Nat) : Int) - ((es.filter (·.1)).length : Nat) = ((fs.length - cameN es : Nat) : Int) := by
      have := hc.1
      unfold cameN at this ⊢
      omega
    have e2 : 2 * (((es.filter (·.1)).length : Nat) : Int) - ((es.length : Nat) : Int) = ((2 * cameN es - es.length : Nat) : Int) := by
      have := hc.2.1
      unfold cameN at this ⊢
      omega
    rw [e_behind]; unfold c_behind defC; simp! only [hC, e1, e2, hw]
    rfl
  · cases h
theorem r_how_many_days (F : FolkOk n fs) (hf : fs.length ≤ 4) (k : Nat) : runK tb (k + 10) "how_many_days" [.val (nsT n fs)] = .ok (.int (waysT fs.length 0 : Nat)) [.val (nsT n fs)] := by
  have h1 := F (k + 5)
  have h2 := r_ways (o := fs.length) (h := 0) (by omega) k
  have h2' : runK tb (k + 9) "ways_on" [.val (.int (fs.length : Nat)), .val (.int 0)] = .ok (.int (waysT fs.length 0 : Nat)) [.val (.int (fs.length : Nat)), .val (.int 0)] := h2
  rw [e_how_many_days]; unfold c_how_many_days defC; simp! only [h1, h2']
  rfl
theorem r_all_days (C : Cn n fs ds) (k : Nat) : runK tb (k + 5) "all_days" [.val (nsT n fs)] = .ok (daysD n ds) [.val (nsT n fs)] := by
  have h1 := C.F k
  have h2 := r_every_day (n := n) (k := k + 3) C.hd C.hf
  rw [e_all_days]; unfold c_all_days defC; simp! only [h1, h2]
  rfl
def pickP (fs : List Nat) (row : Day) : List Ev → Nat → Option (Ev × Nat)
  | [], _ => none
  | e :: r, x => match behindO fs (row ++ [e]) with
    | some m => if x < m then some (e, x) else pickP fs row r (x - m)
    | none => none
def dayAtP (fs : List Nat) : Nat → Day → Nat → Option Day
  | 0, row, _ => some row
  | k + 1, row, x => match pickP fs row (nextP fs row) x with
    | some (e, x') => dayAtP fs k (row ++ [e]) x'
    | none => none
theorem da_F {row : Day} (hr : row.length ≤ 1000) {k : Nat} {e' : Ev} {x' : Nat} : ∀ (evs : List Ev) (x : Nat) (s3 s4 : Sl), Vn s3 → Vn s4 → pickP fs row evs x = some (e', x') → ∃ t3 t4, Vn t3 ∧ Vn t4 ∧ forL (asgP 3 (.nm 3)) (c_day_at_B1 (runK tb (k + 10))) (evs.map (evD n)) [.val (nsT n fs), .val (.int (x : Nat)), .val (dayD n row), s3, s4] = .ok .next [.val (nsT n fs), .val (.int (x' : Nat)), .val (dayD n (row ++ [e'])), t3, t4]
  | [], x, s3, s4, v3, v4, h => by cases h
  | e :: r, x, s3, s4, v3, v4, h => by
    unfold pickP at h
    cases q : behindO fs (row ++ [e]) with
    | none => rw [q] at h; cases h
    | some m =>
      rw [q] at h
      dsimp only at h
      have hb := r_behind (n := n) q k
      have hc : opD .Add (dayD n row) (.list [evD n e]) = some (dayD n (row ++ [e])) := cat_day (n := n) (a := row) (b := [e]) (by unfold lim; simp; omega)
      have ha : asgP 3 (.nm 3) (evD n e) [.val (nsT n fs), .val (.int (x : Nat)), .val (dayD n row), s3, s4] = .ok () [.val (nsT n fs), .val (.int (x : Nat)), .val (dayD n row), .val (evD n e), s4] := by
        rcases v3 with rfl | ⟨d3, rfl⟩ <;> simp! only []
      rw [List.map_cons, forL, bnd_of ha]
      by_cases hx : x < m
      · rw [if_pos hx] at h
        have h' : e = e' ∧ x = x' := by simpa using h
        rw [← h'.1, ← h'.2]
        have hB : c_day_at_B1 (runK tb (k + 10)) [.val (nsT n fs), .val (.int (x : Nat)), .val (dayD n row), .val (evD n e), s4] = .ok .brk [.val (nsT n fs), .val (.int (x : Nat)), .val (dayD n (row ++ [e])), .val (evD n e), .val (.int (m : Nat))] := by
          have hd : decide (((x : Nat) : Int) < ((m : Nat) : Int)) = true := decide_eq_true (by omega)
          unfold c_day_at_B1
          rcases v4 with rfl | ⟨d4, rfl⟩ <;> simp! only [hc, hb, hd] <;> rfl
        rw [bnd_of hB]
        exact ⟨_, _, .v _, .v _, rfl⟩
      · rw [if_neg hx] at h
        have hB : c_day_at_B1 (runK tb (k + 10)) [.val (nsT n fs), .val (.int (x : Nat)), .val (dayD n row), .val (evD n e), s4] = .ok .next [.val (nsT n fs), .val (.int ((x - m : Nat) : Int)), .val (dayD n row), .val (evD n e), .val (.int (m : Nat))] := by
          have hd : decide (((x : Nat) : Int) < ((m : Nat) : Int)) = false := decide_eq_false (by omega)
          have hs : ((x : Nat) : Int) - ((m : Nat) : Int) = ((x - m : Nat) : Int) := by omega
          unfold c_day_at_B1
          rcases v4 with rfl | ⟨d4, rfl⟩ <;> simp! only [hc, hb, hd, hs]
        obtain ⟨t3, t4, w3, w4, ih⟩ := da_F hr r (x - m) (.val (evD n e)) (.val (.int (m : Nat))) (.v _) (.v _) h
        rw [bnd_of hB]
        exact ⟨t3, t4, w3, w4, ih⟩
theorem da_B2 {row : Day} (hr : row.length ≤ 1000) (hf : fs.length ≤ 1000) {k x x' : Nat} {e' : Ev} {s2 s3 s4 : Sl} (h2 : s2 = .own (row.map (evD n)) ∨ s2 = .val (dayD n row)) (v3 : Vn s3) (v4 : Vn s4) (h : pickP fs row (nextP fs row) x = some (e', x')) : ∃ t3 t4, Vn t3 ∧ Vn t4 ∧ c_day_at_B2 (runK tb (k + 10)) [.val (nsT n fs), .val (.int (x : Nat)), s2, s3, s4] = .ok .next [.val (nsT n fs), .val (.int (x' : Nat)), .val (dayD n (row ++ [e'])), t3, t4] := by
  obtain ⟨t3, t4, w3, w4, hF⟩ := da_F (n := n) (k := k) hr (nextP fs row) x s3 s4 v3 v4 h
  have hn := r_next_events (n := n) (fs := fs) (es := row) hf (k + 9)
  have hz : (PyData.list (row.map (evD n)) : D) = dayD n row := rfl
  refine ⟨t3, t4, w3, w4, ?_⟩
  unfold c_day_at_B2
  rcases h2 with rfl | rfl <;> simp! only [hz, hn, hF]
theorem da_T {row : Day} {x : Nat} {s2 s3 s4 : Sl} (h2 : s2 = .own (row.map (evD n)) ∨ s2 = .val (dayD n row)) (v3 : Vn s3) (v4 : Vn s4) : borrow (cmpB .Lt (lenN 2 (rdSlot 2)) (opM .Mult (ret (.int 2)) (lenN 0 (rdSlot 0)))) [.val (nsT n fs), .val (.int (x : Nat)), s2, s3, s4] = .ok (decide (row.length < 2 * fs.length)) [.val (nsT n fs), .val (.int (x : Nat)), s2, s3, s4] := by
  have hd : decide (((row.length : Nat) : Int) < 2 * ((fs.length : Nat) : Int)) = decide (row.length < 2 * fs.length) := by
    by_cases q : row.length < 2 * fs.length
    · rw [decide_eq_true q, decide_eq_true (by omega)]
    · rw [decide_eq_false q, decide_eq_false (by omega)]
  have hz : (PyData.list (row.map (evD n)) : D) = dayD n row := rfl
  rcases h2 with rfl | rfl <;> simp! only [hz, hd, v3.fz, v3.rs, v4.fz, v4.rs]
theorem da_W (hf : fs.length ≤ 400) {d : Day} {k : Nat} (g : Nat) : ∀ (m : Nat) (row : Day) (x : Nat) (s2 s3 s4 : Sl), row.length + m = 2 * fs.length → (s2 = .own (row.map (evD n)) ∨ s2 = .val (dayD n row)) → Vn s3 → Vn s4 → dayAtP fs m row x = some d →
    ∃ t1 t2 t3 t4, (t2 = .own (d.map (evD n)) ∨ t2 = .val (dayD n d)) ∧ whileL (borrow (cmpB .Lt (lenN 2 (rdSlot 2)) (opM .Mult (ret (.int 2)) (lenN 0 (rdSlot 0))))) (c_day_at_B2 (runK tb (k + 10))) (m + g + 1) [.val (nsT n fs), .val (.int (x : Nat)), s2, s3, s4] = .ok .next [.val (nsT n fs), t1, t2, t3, t4]
  | 0, row, x, s2, s3, s4, hl, h2, v3, v4, h => by
    cases h
    refine ⟨.val (.int (x : Nat)), s2, s3, s4, h2, ?_⟩
    have ht := da_T (n := n) (fs := fs) (x := x) h2 v3 v4
    rw [decide_eq_false (by omega)] at ht
    rw [show 0 + g + 1 = g + 1 by omega, whileL, bnd_of ht]
    rfl
  | m + 1, row, x, s2, s3, s4, hl, h2, v3, v4, h => by
    unfold dayAtP at h
    cases q : pickP fs row (nextP fs row) x with
    | none => rw [q] at h; cases h
    | some p =>
      obtain ⟨e, x'⟩ := p
      rw [q] at h
      obtain ⟨t3, t4, w3, w4, hB⟩ := da_B2 (n := n) (k := k) (by omega) (by omega) h2 v3 v4 q
      obtain ⟨u1, u2, u3, u4, hu, ih⟩ := da_W hf g m (row ++ [e]) x' _ t3 t4 (by rw [List.length_append]; simp; omega) (.inr rfl) w3 w4 h
      refine ⟨u1, u2, u3, u4, hu, ?_⟩
      have ht := da_T (n := n) (fs := fs) (x := x) h2 v3 v4
      rw [decide_eq_true (by omega)] at ht
      rw [show m + 1 + g + 1 = (m + g + 1) + 1 by omega, whileL, bnd_of ht, if_pos rfl, bnd_of hB]
      exact ih
theorem r_day_at (F : FolkOk n fs) (hf : fs.length ≤ 4) {x : Nat} {d : Day} (hx : x < waysT fs.length 0) (h : dayAtP fs (2 * fs.length) [] x = some d) (k : Nat) : runK tb (k + 11) "day_at" [.val (nsT n fs), .val (.int (x : Nat))] = .ok (dayD n d) [.val (nsT n fs), .val (.int (x : Nat))] := by
  have h1 := F (k + 6)
  have h2 : runK tb (k + 10) "ways_on" [.val (.int (fs.length : Nat)), .val (.int 0)] = .ok (.int (waysT fs.length 0 : Nat)) [.val (.int (fs.length : Nat)), .val (.int 0)] := r_ways (o := fs.length) (h := 0) (by omega) (k + 1)
  have h3 := r_is_whole (k + 9) (x : Nat) 0 ((waysT fs.length 0 : Nat) - 1)
  rw [decide_eq_true (by omega), decide_eq_true (by omega)] at h3
  obtain ⟨t1, t2, t3, t4, ht, hW⟩ := da_W (n := n) (k := k) (d := d) (by omega) (29999 - 2 * fs.length) (2 * fs.length) [] x (.own []) .non .non (by simp) (.inl rfl) .n .n h
  have hW' : whlS (cmpB .Lt (lenN 2 (rdSlot 2)) (opM .Mult (ret (.int 2)) (lenN 0 (rdSlot 0)))) (c_day_at_B2 (runK tb (k + 10))) [.val (nsT n fs), .val (.int (x : Nat)), .own [], .non, .non] = .ok .next [.val (nsT n fs), t1, t2, t3, t4] := by
    unfold whlS whileFuel
    rw [show 30000 = 2 * fs.length + (29999 - 2 * fs.length) + 1 by omega]
    exact hW
  have hz : (PyData.list (d.map (evD n)) : D) = dayD n d := rfl
  rcases ht with rfl | rfl
  · rw [e_day_at]; unfold c_day_at defC; simp! only [h1, h2, h3, hW', hz]
    rfl
  · rw [e_day_at]; unfold c_day_at defC; simp! only [h1, h2, h3, hW', hz]
    rfl
theorem o_ltEv (a b : Ev) : cmpD .Lt (evD n a) (evD n b) = some (ltEv a b) := by
  have g1 := (good_ev n a).shaped (by decide)
  have g2 := (good_ev n b).shaped (by decide)
  have h : cmpD .Lt (evD n a) (evD n b) = (if SeqAt.shaped (evD n a) && SeqAt.shaped (evD n b) && PySem.W.alike (evD n a) (evD n b) && !isNon (evD n a) then some (PySem.W.dataLt (evD n a) (evD n b)) else none) := rfl
  rw [h, g1, g2, alike_ev, dataLt_ev]
  rfl
def sumQ : List Nat → Nat
  | [] => 0
  | a :: l => a + sumQ l
theorem ints_nat : ∀ l : List Nat, intsOf (l.map fun m : Nat => (PyData.int (m : Nat) : D)) = some (l.map fun m : Nat => (m : Int))
  | [] => rfl
  | a :: l => by
    rw [List.map_cons, intsOf, ints_nat l]
    rfl
theorem sum_int : ∀ l : List Nat, (l.map fun m : Nat => (m : Int)).sum = ((sumQ l : Nat) : Int)
  | [] => rfl
  | a :: l => by
    rw [List.map_cons, List.sum_cons, sum_int l, sumQ, Int.natCast_add]
theorem sum_nat (l : List Nat) : sumD [.list (l.map fun m : Nat => (PyData.int (m : Nat) : D))] = some (.int (sumQ l : Nat)) := by
  show (intsOf (l.map fun m : Nat => (PyData.int (m : Nat) : D))).map (fun bs => PyData.int bs.sum) = _
  rw [ints_nat]
  show some (PyData.int _) = _
  rw [sum_int]
def lessL (fs : List Nat) (pre : Day) (own : Ev) : Day := (nextP fs pre).filter fun e => ltEv e own
def lessS (fs : List Nat) (pre : Day) (own : Ev) : Nat := sumQ ((lessL fs pre own).map fun e => (behindO fs (pre ++ [e])).getD 0)
def numO (fs : List Nat) : Day → Day → Nat → Option Nat
  | _, [], x => some x
  | pre, e :: r, x => if (lessL fs pre e).all fun e => (behindO fs (pre ++ [e])).isSome then numO fs (pre ++ [e]) r (x + lessS fs pre e) else none
theorem nb_C1 {d : Day} {k i : Nat} {own : Ev} (hd : d.length ≤ 1000) (h : ∀ e ∈ lessL fs (d.take i) own, (behindO fs (d.take i ++ [e])).isSome = true) {s2 : Sl} : c_number_of_C1 (runK tb (k + 10)) [.val (nsT n fs), .val (dayD n d), s2, .val (.int (i : Nat)), .val (evD n own), .val (dayD n (nextP fs (d.take i))), .non, .non] = .ok (.list (((lessL fs (d.take i) own).map fun e => (behindO fs (d.take i ++ [e])).getD 0).map fun m : Nat => (PyData.int (m : Nat) : D))) [.val (nsT n fs), .val (dayD n d), s2, .val (.int (i : Nat)), .val (evD n own), .val (dayD n (nextP fs (d.take i))), .non, .non] := by
  refine (compM_map (es := nextP fs (d.take i)) (enc := evD n) (p := fun e => ltEv e own) (f := fun e => .int (((behindO fs (d.take i ++ [e])).getD 0 : Nat) : Int)) (env' := [.val (nsT n fs), .val (dayD n d), s2, .val (.int (i : Nat)), .val (evD n own), .val (dayD n (nextP fs (d.take i))), .non, .non]) (env1 := fun e => [.val (nsT n fs), .val (dayD n d), s2, .val (.int (i : Nat)), .val (evD n own), .val (dayD n (nextP fs (d.take i))), .non, .val (evD n e)]) ?_ rfl rfl (fun a _ => rfl) (fun q hq => ?_) (fun e he hp => ?_) (fun a _ => rfl)).trans ?_
  · simp! only []
  · simp! only [o_ltEv]
  · obtain ⟨m, hm⟩ := Option.isSome_iff_exists.mp (h e (List.mem_filter.mpr ⟨he, hp⟩))
    have hb := r_behind (n := n) hm k
    have hc : opD .Add (dayD n (d.take i)) (.list [evD n e]) = some (dayD n (d.take i ++ [e])) := cat_day (n := n) (a := d.take i) (b := [e]) (by unfold lim; rw [List.length_take]; simp; omega)
    rw [hm]
    simp! only [hc, hb]
    rfl
  · rw [List.map_map]
    rfl
theorem nb_L {d : Day} {k y : Nat} (hd : d.length ≤ 1000) (hf : fs.length ≤ 1000) : ∀ (rest pre : Day) (x : Nat) (s3 s4 s5 : Sl), pre ++ rest = d → Vn s3 → Vn s4 → Vn s5 → numO fs pre rest x = some y →
    ∃ t3 t4 t5, forL (asgP 3 (.tp [.nm 3, .nm 4])) (c_number_of_B1 (runK tb (k + 10))) (((List.range' pre.length rest.length).zip rest).map (enE (evD n))) [.val (nsT n fs), .val (dayD n d), .val (.int (x : Nat)), s3, s4, s5, .non, .non] = .ok .next [.val (nsT n fs), .val (dayD n d), .val (.int (y : Nat)), t3, t4, t5, .non, .non]
  | [], pre, x, s3, s4, s5, hp, v3, v4, v5, h => by
    cases h
    exact ⟨s3, s4, s5, rfl⟩
  | e :: rest, pre, x, s3, s4, s5, hp, v3, v4, v5, h => by
    unfold numO at h
    split at h
    · rename_i ha
      rw [List.all_eq_true] at ha
      have ht : d.take pre.length = pre := by rw [← hp]; simp
      obtain ⟨t3, t4, t5, ih⟩ := nb_L (k := k) hd hf rest (pre ++ [e]) (x + lessS fs pre e) (.val (.int (pre.length : Nat))) (.val (evD n e)) (.val (dayD n (nextP fs pre))) (by rw [List.append_assoc]; exact hp) (.v _) (.v _) (.v _) h
      refine ⟨t3, t4, t5, ?_⟩
      have hC := nb_C1 (n := n) (k := k) (i := pre.length) (own := e) hd (by rw [ht]; exact ha) (s2 := .val (.int (x : Nat)))
      rw [ht] at hC
      have hn := r_next_events (n := n) (fs := fs) (es := pre) hf (k + 9)
      have hs := sum_nat ((lessL fs pre e).map fun e => (behindO fs (pre ++ [e])).getD 0)
      have ha2 : asgP 3 (.tp [.nm 3, .nm 4]) (enE (evD n) (pre.length, e)) [.val (nsT n fs), .val (dayD n d), .val (.int (x : Nat)), s3, s4, s5, .non, .non] = .ok () [.val (nsT n fs), .val (dayD n d), .val (.int (x : Nat)), .val (.int (pre.length : Nat)), .val (evD n e), s5, .non, .non] := by
        unfold enE
        rcases v3 with rfl | ⟨d3, rfl⟩ <;> rcases v4 with rfl | ⟨d4, rfl⟩ <;> simp! only []
      have hB : c_number_of_B1 (runK tb (k + 10)) [.val (nsT n fs), .val (dayD n d), .val (.int (x : Nat)), .val (.int (pre.length : Nat)), .val (evD n e), s5, .non, .non] = .ok .next [.val (nsT n fs), .val (dayD n d), .val (.int ((x + lessS fs pre e : Nat) : Int)), .val (.int (pre.length : Nat)), .val (evD n e), .val (dayD n (nextP fs pre)), .non, .non] := by
        unfold c_number_of_B1
        rcases v5 with rfl | ⟨d5, rfl⟩ <;> simp! only [ht, hn, hC, hs] <;> rfl
      rw [List.length_cons, List.range'_succ, List.zip_cons_cons, List.map_cons, forL, bnd_of ha2, bnd_of hB]
      rw [List.length_append] at ih
      exact ih
    · cases h
theorem r_number_of (F : FolkOk n fs) {d : Day} (g : good fs d = true) (hd : d.length ≤ 1000) (hf : fs.length ≤ 1000) {y : Nat} (h : numO fs [] d 0 = some y) (k : Nat) : runK tb (k + 11) "number_of" [.val (nsT n fs), .val (dayD n d)] = .ok (.int (y : Nat)) [.val (nsT n fs), .val (dayD n d)] := by
  have h1 := r_need_day F g (k + 5)
  obtain ⟨t3, t4, t5, hL⟩ := nb_L (n := n) (k := k) hd hf d [] 0 .non .non .non rfl .n .n .n h
  have hi : enuThen (dayD n d) = ret (((List.range' 0 d.length).zip d).map (enE (evD n))) := by
    show ret (numbered (d.map (evD n))) = _
    rw [numbered_map]
    unfold en2
    rw [List.range_eq_range']
  have hL' : forL (asgP 3 (.tp [.nm 3, .nm 4])) (c_number_of_B1 (runK tb (k + 10))) (((List.range' 0 d.length).zip d).map (enE (evD n))) [.val (nsT n fs), .val (dayD n d), .val (.int 0), .non, .non, .non, .non, .non] = .ok .next [.val (nsT n fs), .val (dayD n d), .val (.int (y : Nat)), t3, t4, t5, .non, .non] := hL
  rw [e_number_of]; unfold c_number_of defC; simp! only [h1, hi, hL']
  rfl
end
end TD

set_option Elab.async false
set_option maxRecDepth 1000000
set_option linter.all false
set_option maxHeartbeats 0
namespace TD
open PySem
/-! numbers of days, by the kernel -/
def chkN (fs : List Nat) (i : Nat) (d : Day) : Bool := decide (dayAtP fs (2 * fs.length) [] i = some d) && decide (numO fs [] d 0 = some i)
def downB (p : Nat → Day → Bool) : Nat → List Day → Bool
  | _, [] => true
  | 0, _ :: _ => false
  | n + 1, d :: l => p n d && downB p n l
theorem down_get {p : Nat → Day → Bool} : ∀ {n : Nat} {l : List Day}, downB p n l = true → ∀ {j : Nat} {d : Day}, l[j]? = some d → j < n ∧ p (n - 1 - j) d = true
  | _, [], _, j, d, h => by simp at h
  | 0, _ :: _, h, _, _, _ => by cases h
  | n + 1, a :: l, h, 0, d, hj => by
    unfold downB at h
    rw [Bool.and_eq_true] at h
    have e : a = d := by simpa using hj
    subst e
    exact ⟨by omega, h.1⟩
  | n + 1, a :: l, h, j + 1, d, hj => by
    unfold downB at h
    rw [Bool.and_eq_true] at h
    have := down_get h.2 (j := j) (d := d) (by simpa using hj)
    refine ⟨by omega, ?_⟩
    rw [show n + 1 - 1 - (j + 1) = n - 1 - j by omega]
    exact this.2
theorem down_chunks {p : Nat → Day → Bool} {l : List Day} {N w m : Nat} (hw : 0 < w) (hN : l.length ≤ N) (hm : l.length ≤ w * m) (h : ∀ i, i < m → downB p (N - w * i) ((l.drop (w * i)).take w) = true) {j : Nat} {d : Day} (hj : l[j]? = some d) : p (N - 1 - j) d = true := by
  have hl : j < l.length := (List.getElem?_eq_some_iff.mp hj).1
  have hi : j / w < m := Nat.div_lt_of_lt_mul (by omega)
  have e := Nat.div_add_mod j w
  have hlt := Nat.mod_lt j hw
  have := down_get (h (j / w) hi) (j := j % w) (d := d) (by
    rw [List.getElem?_take, if_pos hlt, List.getElem?_drop, e]
    exact hj)
  rw [show N - 1 - j = N - w * (j / w) - 1 - j % w by omega]
  exact this.2
theorem wB2 : downB (chkN [0, 1]) 6 (daysR [0, 1]) = true := by kernel_rfl
theorem wB3 : downB (chkN [0, 1, 2]) 90 (daysR [0, 1, 2]) = true := by kernel_rfl
theorem wB4_0 : downB (chkN [0, 1, 2, 3]) 2520 (((daysR [0, 1, 2, 3]).drop 0).take 210) = true := by kernel_rfl
theorem wB4_1 : downB (chkN [0, 1, 2, 3]) 2310 (((daysR [0, 1, 2, 3]).drop 210).take 210) = true := by kernel_rfl
theorem wB4_2 : downB (chkN [0, 1, 2, 3]) 2100 (((daysR [0, 1, 2, 3]).drop 420).take 210) = true := by kernel_rfl
theorem wB4_3 : downB (chkN [0, 1, 2, 3]) 1890 (((daysR [0, 1, 2, 3]).drop 630).take 210) = true := by kernel_rfl
theorem wB4_4 : downB (chkN [0, 1, 2, 3]) 1680 (((daysR [0, 1, 2, 3]).drop 840).take 210) = true := by kernel_rfl
theorem wB4_5 : downB (chkN [0, 1, 2, 3]) 1470 (((daysR [0, 1, 2, 3]).drop 1050).take 210) = true := by kernel_rfl
theorem wB4_6 : downB (chkN [0, 1, 2, 3]) 1260 (((daysR [0, 1, 2, 3]).drop 1260).take 210) = true := by kernel_rfl
theorem wB4_7 : downB (chkN [0, 1, 2, 3]) 1050 (((daysR [0, 1, 2, 3]).drop 1470).take 210) = true := by kernel_rfl
theorem wB4_8 : downB (chkN [0, 1, 2, 3]) 840 (((daysR [0, 1, 2, 3]).drop 1680).take 210) = true := by kernel_rfl
theorem wB4_9 : downB (chkN [0, 1, 2, 3]) 630 (((daysR [0, 1, 2, 3]).drop 1890).take 210) = true := by kernel_rfl
theorem wB4_10 : downB (chkN [0, 1, 2, 3]) 420 (((daysR [0, 1, 2, 3]).drop 2100).take 210) = true := by kernel_rfl
theorem wB4_11 : downB (chkN [0, 1, 2, 3]) 210 (((daysR [0, 1, 2, 3]).drop 2310).take 210) = true := by kernel_rfl
theorem wB4 : ∀ i, i < 12 → downB (chkN [0, 1, 2, 3]) (2520 - 210 * i) (((daysR [0, 1, 2, 3]).drop (210 * i)).take 210) = true := chunk12 wB4_0 wB4_1 wB4_2 wB4_3 wB4_4 wB4_5 wB4_6 wB4_7 wB4_8 wB4_9 wB4_10 wB4_11
theorem ln2 : (daysR [0, 1]).length = 6 := by kernel_rfl
theorem ln3 : (daysR [0, 1, 2]).length = 90 := by kernel_rfl
theorem rev_at {l : List Day} {N i : Nat} {d : Day} (hN : l.length = N) (h : l.reverse[i]? = some d) : i < N ∧ l[N - 1 - i]? = some d := by
  have hi : i < l.reverse.length := (List.getElem?_eq_some_iff.mp h).1
  rw [List.length_reverse] at hi
  rw [List.getElem?_reverse hi, hN] at h
  exact ⟨by omega, h⟩
structure NumOk (fs : List Nat) (ds : List Day) : Prop where
  l : ds.length = waysT fs.length 0
  p : ∀ {i : Nat} {d : Day}, ds[i]? = some d → dayAtP fs (2 * fs.length) [] i = some d ∧ numO fs [] d 0 = some i
theorem chk_of {fs : List Nat} {i : Nat} {d : Day} (h : chkN fs i d = true) : dayAtP fs (2 * fs.length) [] i = some d ∧ numO fs [] d 0 = some i := by
  unfold chkN at h
  simpa only [Bool.and_eq_true, decide_eq_true_eq] using h
theorem num_ok {fs : List Nat} (h : fs ∈ folks) : NumOk fs (daysOf fs) := by
  unfold folks at h
  simp only [List.mem_cons, List.not_mem_nil, or_false] at h
  rcases h with rfl | rfl | rfl
  · refine ⟨by unfold daysOf; rw [List.length_reverse, ln2]; rfl, fun {i d} hi => ?_⟩
    obtain ⟨h1, h2⟩ := rev_at ln2 hi
    have := (down_get wB2 h2).2
    rw [show 6 - 1 - (6 - 1 - i) = i by omega] at this
    exact chk_of this
  · refine ⟨by unfold daysOf; rw [List.length_reverse, ln3]; rfl, fun {i d} hi => ?_⟩
    obtain ⟨h1, h2⟩ := rev_at ln3 hi
    have := (down_get wB3 h2).2
    rw [show 90 - 1 - (90 - 1 - i) = i by omega] at this
    exact chk_of this
  · refine ⟨by unfold daysOf; rw [List.length_reverse, len4]; rfl, fun {i d} hi => ?_⟩
    obtain ⟨h1, h2⟩ := rev_at len4 hi
    have := down_chunks (N := 2520) (w := 210) (m := 12) (by decide) (by rw [len4]; decide) (by rw [len4]; decide) wB4 h2
    rw [show 2520 - 1 - (2520 - 1 - i) = i by omega] at this
    exact chk_of this
section
variable {fs : List Nat} {ds : List Day}
theorem day_bad (C : Cn annN fs ds) {b : D} (hb : ∀ k, runK tb (k + 1) "is_whole" [.val b, .val (.int 0), .val (.int ((waysT fs.length 0 : Nat) - 1))] = .ok (.bool false) [.val b, .val (.int 0), .val (.int ((waysT fs.length 0 : Nat) - 1))]) (k : Nat) : runK tb (k + 11) "day_at" [.val (nsT annN fs), .val b] = .exc "BadNumber" [.val (nsT annN fs), .val b] := by
  have h1 := C.F (k + 6)
  have h2 : runK tb (k + 10) "ways_on" [.val (.int (fs.length : Nat)), .val (.int 0)] = .ok (.int (waysT fs.length 0 : Nat)) [.val (.int (fs.length : Nat)), .val (.int 0)] := r_ways (o := fs.length) (h := 0) (by have := C.hf; omega) (k + 1)
  have h3 := hb (k + 9)
  rw [e_day_at]; unfold c_day_at defC; simp! only [h1, h2, h3]
  rfl
theorem l05_L1 (h : fs ∈ folks) {dc : List D} {y2 : D} : forS (.nm 4) (rng1 (lenN 9 (rdSlot 9))) (c_law_B1 (runK tb 30) (lowK tb 30)) [.non, .own dc, .val y2, .val (.int 1), .non, .non, .non, .non, .non, .val (nsT annN fs), .non, .non] = .ok .next [.non, .own dc, .val y2, .val (.int (waysT fs.length 0 : Nat)), .val (.int (fs.length - 1 : Nat)), .non, .non, .non, .non, .val (nsT annN fs), .non, .non] := by
  unfold folks at h
  simp only [List.mem_cons, List.not_mem_nil, or_false] at h
  rcases h with rfl | rfl | rfl <;> kernel_rfl
theorem ix_days {l : List Day} {j : Nat} {d : Day} (h : l[j]? = some d) : ixD (daysD annN l) (.int (j : Nat)) = some (dayD annN d) := ix_lst (by rw [List.getElem?_map, h]; rfl)
theorem len_days (l : List Day) : lenD [daysD annN l] = some (.int (l.length : Nat)) := by unfold daysD lenD; simp
theorem l05_B2 (C : Cn annN fs ds) (N : NumOk fs ds) (hp : 0 < waysT fs.length 0) (hp2 : waysT fs.length 0 ≤ 1000000) {y4 y5 : D} {s6 : Sl} (v6 : Vn s6) (c m : Int) : ∃ c' m' : Int, ∃ t6, Vn t6 ∧ c_law_B2 (runK tb 30) (lowK tb 30) [.non, .own [.int c, .int m], .val (daysD annN ds), .val (.int (waysT fs.length 0 : Nat)), .val y4, .val y5, s6, .non, .non, .val (nsT annN fs), .non, .non] = .ok .next [.non, .own [.int c', .int m'], .val (daysD annN ds), .val (.int (waysT fs.length 0 : Nat)), .val y4, .val y5, t6, .non, .non, .val (nsT annN fs), .non, .non] := by
  obtain ⟨j, c2, m2, hj, hr⟩ := roll_nat 28 c m (waysT fs.length 0) hp hp2
  have hr' : runK tb 30 "_law_roll" [.par [.int c, .int m], .val (.int (waysT fs.length 0 : Nat))] = .ok (.int (j : Nat)) [.par [.int c2, .int m2], .val (.int (waysT fs.length 0 : Nat))] := hr
  have hjl : j < ds.length := by rw [N.l]; exact hj
  have hget : ds[j]? = some ds[j] := List.getElem?_eq_getElem hjl
  obtain ⟨p1, p2⟩ := N.p hget
  have hd : ds[j] ∈ ds := List.getElem_mem hjl
  have Dk := C.ok _ hd
  have h1 := r_day_at C.F C.hf hj p1 19
  have h2 := r_number_of C.F Dk.g Dk.l (by have := C.hf; omega) p2 19
  refine ⟨c2, m2, .val (.int (j : Nat)), .v _, ?_⟩
  unfold c_law_B2
  rcases v6 with rfl | ⟨d6, rfl⟩ <;> simp! only [hr', h1, h2, ix_days hget, q_neDay, decide_true]
theorem l05_L2 (C : Cn annN fs ds) (N : NumOk fs ds) (hp : 0 < waysT fs.length 0) (hp2 : waysT fs.length 0 ≤ 1000000) {y4 : D} (c m : Int) : ∃ c' m' : Int, ∃ t5 t6, Vn t5 ∧ Vn t6 ∧ forL (asgP 3 (.nm 5)) (c_law_B2 (runK tb 30) (lowK tb 30)) ((List.range 8).map fun i : Nat => (PyData.int (i : Nat) : D)) [.non, .own [.int c, .int m], .val (daysD annN ds), .val (.int (waysT fs.length 0 : Nat)), .val y4, .non, .non, .non, .non, .val (nsT annN fs), .non, .non] = .ok .next [.non, .own [.int c', .int m'], .val (daysD annN ds), .val (.int (waysT fs.length 0 : Nat)), .val y4, t5, t6, .non, .non, .val (nsT annN fs), .non, .non] := by
  obtain ⟨e, he, c', m', s5, s6, v5, v6, rfl⟩ := forL_inv (α := Nat) (enc := fun i : Nat => (PyData.int (i : Nat) : D)) (asg := asgP 3 (.nm 5)) (body := c_law_B2 (runK tb 30) (lowK tb 30)) (fun r e => ∃ c' m' : Int, ∃ s5 s6, Vn s5 ∧ Vn s6 ∧ e = [.non, .own [.int c', .int m'], .val (daysD annN ds), .val (.int (waysT fs.length 0 : Nat)), .val y4, s5, s6, .non, .non, .val (nsT annN fs), .non, .non])
    (es := List.range 8) (e0 := [.non, .own [.int c, .int m], .val (daysD annN ds), .val (.int (waysT fs.length 0 : Nat)), .val y4, .non, .non, .non, .non, .val (nsT annN fs), .non, .non]) (fun i r e ⟨c', m', s5, s6, v5, v6, he⟩ => by
      subst he
      obtain ⟨c2, m2, t6, w6, hB⟩ := l05_B2 C N hp hp2 (y4 := y4) (y5 := .int (i : Nat)) v6 c' m'
      refine ⟨[.non, .own [.int c', .int m'], .val (daysD annN ds), .val (.int (waysT fs.length 0 : Nat)), .val y4, .val (.int (i : Nat)), s6, .non, .non, .val (nsT annN fs), .non, .non], _, ?_, hB, c2, m2, .val (.int (i : Nat)), t6, .v _, w6, rfl⟩
      rcases v5 with rfl | ⟨d5, rfl⟩ <;> simp! only []) ⟨c, m, .non, .non, .n, .n, rfl⟩
  exact ⟨c', m', s5, s6, v5, v6, he⟩
theorem l05_C1 {dc : List D} {d : Day} {s1 s2 s3 s4 s5 s6 s7 s8 : Sl} : c_law_C1 (runK tb 30) (lowK tb 30) [.non, s1, s2, s3, s4, s5, s6, s7, s8, .val (nsT annN fs), .non, .non] = .ok (dayD annN (fs.map fun w => (true, w))) [.non, s1, s2, s3, s4, s5, s6, s7, s8, .val (nsT annN fs), .non, .non] := by
  refine (compM_each (es := fs) (enc := nmD annN) (f := fun w => evD annN (true, w)) (env' := [.non, s1, s2, s3, s4, s5, s6, s7, s8, .val (nsT annN fs), .non, .non]) (env1 := fun w => [.non, s1, s2, s3, s4, s5, s6, s7, s8, .val (nsT annN fs), .non, .val (nmD annN w)]) ?_ rfl rfl (fun a _ => rfl) (fun b _ => ?_) (fun a _ => rfl)).trans ?_
  · simp! only []
  · simp! only [ev_t]
  · unfold dayD
    rw [List.map_map]
    rfl
theorem l05_C2 {dc : List D} {d : Day} {s1 s2 s3 s4 s5 s6 s7 s8 : Sl} : c_law_C2 (runK tb 30) (lowK tb 30) [.non, s1, s2, s3, s4, s5, s6, s7, s8, .val (nsT annN fs), .non, .non] = .ok (dayD annN (fs.map fun w => (false, w))) [.non, s1, s2, s3, s4, s5, s6, s7, s8, .val (nsT annN fs), .non, .non] := by
  refine (compM_each (es := fs) (enc := nmD annN) (f := fun w => evD annN (false, w)) (env' := [.non, s1, s2, s3, s4, s5, s6, s7, s8, .val (nsT annN fs), .non, .non]) (env1 := fun w => [.non, s1, s2, s3, s4, s5, s6, s7, s8, .val (nsT annN fs), .non, .val (nmD annN w)]) ?_ rfl rfl (fun a _ => rfl) (fun b _ => ?_) (fun a _ => rfl)).trans ?_
  · simp! only []
  · simp! only [ev_f]
  · unfold dayD
    rw [List.map_map]
    rfl
theorem day_first : ∀ fs ∈ folks, dayAtP fs (2 * fs.length) [] 0 = some ((fs.map fun w => (true, w)) ++ fs.map fun w => (false, w)) := by decide +kernel
theorem ways_pos : ∀ fs ∈ folks, 0 < waysT fs.length 0 ∧ waysT fs.length 0 ≤ 1000000 := by decide
theorem whole_int (k : Nat) {i lo hi : Int} (h : ¬ (lo ≤ i ∧ i ≤ hi)) : runK tb (k + 1) "is_whole" [.val (.int i), .val (.int lo), .val (.int hi)] = .ok (.bool false) [.val (.int i), .val (.int lo), .val (.int hi)] := by
  rw [r_is_whole]
  have : (decide (lo ≤ i) && decide (i ≤ hi)) = false := by
    rw [Bool.and_eq_false_iff, decide_eq_false_iff_not, decide_eq_false_iff_not]
    omega
  rw [this]
theorem whole_oth (k : Nat) (d : D) (h : d = .bool true ∨ d = .none ∨ d = .str "0") (lo hi : Int) : runK tb (k + 1) "is_whole" [.val d, .val (.int lo), .val (.int hi)] = .ok (.bool false) [.val d, .val (.int lo), .val (.int hi)] := by
  rw [e_is_whole]
  rcases h with rfl | rfl | rfl <;> kernel_rfl
theorem bn1 : cmpD .NotEq (.tuple [.str "refused", .str "BadNumber"]) (.tuple [.str "refused", .str "BadNumber"]) = some false := by kernel_rfl
theorem l05_L3 (C : Cn annN fs ds) {dc : List D} {d : Day} {y4 : D} {s5 s6 : Sl} (v5 : Vn s5) (v6 : Vn s6) : ∃ s8, Vn s8 ∧ forL (asgP 3 (.nm 8)) (c_law_B3 (runK tb 30) (lowK tb 30)) [.int (-1), .int (waysT fs.length 0 : Nat), .bool true, .none, .str "0"] [.non, .own dc, .val (daysD annN ds), .val (.int (waysT fs.length 0 : Nat)), .val y4, s5, s6, .val (dayD annN d), .non, .val (nsT annN fs), .non, .non] = .ok .next [.non, .own dc, .val (daysD annN ds), .val (.int (waysT fs.length 0 : Nat)), .val y4, s5, s6, .val (dayD annN d), s8, .val (nsT annN fs), .non, .non] := by
  have hb : ∀ b ∈ [PyData.int (-1), .int (waysT fs.length 0 : Nat), .bool true, .none, .str "0"], ∀ k, runK tb (k + 1) "is_whole" [.val b, .val (.int 0), .val (.int ((waysT fs.length 0 : Nat) - 1))] = .ok (.bool false) [.val b, .val (.int 0), .val (.int ((waysT fs.length 0 : Nat) - 1))] := by
    intro b hb k
    simp only [List.mem_cons, List.not_mem_nil, or_false] at hb
    rcases hb with rfl | rfl | rfl | rfl | rfl
    · exact whole_int k (by omega)
    · exact whole_int k (by omega)
    · exact whole_oth k _ (by simp) _ _
    · exact whole_oth k _ (by simp) _ _
    · exact whole_oth k _ (by simp) _ _
  have hlow : lowK tb 30 = some (runK tb 28) := rfl
  obtain ⟨e, he, s8, _, v8, rfl⟩ := forL_inv (α := D) (enc := id) (asg := asgP 3 (.nm 8)) (body := c_law_B3 (runK tb 30) (lowK tb 30)) (fun r e => ∃ s8, (∀ b ∈ r, b ∈ [PyData.int (-1), .int (waysT fs.length 0 : Nat), .bool true, .none, .str "0"]) ∧ Vn s8 ∧ e = [.non, .own dc, .val (daysD annN ds), .val (.int (waysT fs.length 0 : Nat)), .val y4, s5, s6, .val (dayD annN d), s8, .val (nsT annN fs), .non, .non])
    (es := [.int (-1), .int (waysT fs.length 0 : Nat), .bool true, .none, .str "0"]) (e0 := [.non, .own dc, .val (daysD annN ds), .val (.int (waysT fs.length 0 : Nat)), .val y4, s5, s6, .val (dayD annN d), .non, .val (nsT annN fs), .non, .non]) (fun b r e ⟨s8, hr, v8, he⟩ => by
      subst he
      have h1 := day_bad C (hb b (hr b (by simp))) 17
      refine ⟨[.non, .own dc, .val (daysD annN ds), .val (.int (waysT fs.length 0 : Nat)), .val y4, s5, s6, .val (dayD annN d), .val b, .val (nsT annN fs), .non, .non], [.non, .own dc, .val (daysD annN ds), .val (.int (waysT fs.length 0 : Nat)), .val y4, s5, s6, .val (dayD annN d), .val b, .val (nsT annN fs), .non, .non], ?_, ?_, .val b, fun z hz => hr z (by simp [hz]), .v _, rfl⟩
      · show asgP 3 (.nm 8) b _ = _
        rcases v8 with rfl | ⟨d8, rfl⟩ <;> simp! only []
      · unfold c_law_B3
        rw [hlow]
        simp! only [h1, bn1, v5.fz, v5.rs, v6.fz, v6.rs]) ⟨.non, fun b h => h, .n, rfl⟩
  exact ⟨s8, v8, he⟩
theorem law_run (c : Int) : ∃ e, c_law (runK tb 30) (lowK tb 30) (env0 12 1 c) = .ok .next e := by
  obtain ⟨fs, hfs, c1, m1, hF⟩ := r_law_any_folk 27 c 0
  obtain ⟨C, L, nd, h2, h4⟩ := ctx4 hfs
  have N := num_ok hfs
  obtain ⟨hp, hp2⟩ := ways_pos fs hfs
  generalize hds : daysOf fs = ds at C L N
  have e0 : env0 12 1 c = [.non, .own [.int c, .int 0], .non, .non, .non, .non, .non, .non, .non, .non, .non, .non] := rfl
  have hla := r_lad (n := annN) L C.hf 29
  have hL1 := l05_L1 hfs (dc := [.int c1, .int m1]) (y2 := daysD annN ds)
  have had := r_all_days C 25
  have hhm := r_how_many_days C.F C.hf 20
  obtain ⟨c2, m2, s5, s6, v5, v6, hL2⟩ := l05_L2 C N hp hp2 (y4 := .int (fs.length - 1 : Nat)) c1 m1
  obtain ⟨d, hd, c3, m3, hD⟩ := r_law_any_day (n := annN) (k := 27) C.hd nd (by omega) c2 m2
  have Dk := C.ok d hd
  obtain ⟨i, hi⟩ := List.mem_iff_getElem?.mp hd
  obtain ⟨p1, p2⟩ := N.p hi
  have hil : i < waysT fs.length 0 := by
    have := (List.getElem?_eq_some_iff.mp hi).1
    rw [N.l] at this
    exact this
  have h1 := r_day_at C.F C.hf hil p1 19
  have h2 := r_number_of C.F Dk.g Dk.l (by omega) p2 19
  have h3 := r_day_at C.F C.hf hp (day_first fs hfs) 19
  have h3' : runK tb 30 "day_at" [.val (nsT annN fs), .val (.int 0)] = .ok (dayD annN ((fs.map fun w => (true, w)) ++ fs.map fun w => (false, w))) [.val (nsT annN fs), .val (.int 0)] := h3
  obtain ⟨s8, v8, hL3⟩ := l05_L3 C (dc := [.int c3, .int m3]) (d := d) (y4 := .int (fs.length - 1 : Nat)) v5 v6
  have u8 : ∀ e : En, rng1Then (.int 8) e = .ok ((List.range 8).map fun i : Nat => (PyData.int (i : Nat) : D)) e := fun e => upTo_nat 8 (by decide) e
  have sq1 : ∀ l : List D, seqOf (.list l) = some l := fun _ => rfl
  have hcat := cat_day (n := annN) (a := fs.map fun w => (true, w)) (b := fs.map fun w => (false, w)) (by rw [List.length_map, List.length_map]; unfold lim; omega)
  rw [e0]
  unfold c_law
  refine blk_step (e' := [.non, .own [.int c1, .int m1], .non, .non, .non, .non, .non, .non, .non, .val (nsT annN fs), .non, .non]) (by simp! only [hF]) ?_
  refine blk_step (e' := [.non, .own [.int c1, .int m1], .val (daysD annN ds), .val (.int 1), .non, .non, .non, .non, .non, .val (nsT annN fs), .non, .non]) (by simp! only [hla]) ?_
  refine blk_step (e' := [.non, .own [.int c1, .int m1], .val (daysD annN ds), .val (.int (waysT fs.length 0 : Nat)), .val (.int (fs.length - 1 : Nat)), .non, .non, .non, .non, .val (nsT annN fs), .non, .non]) hL1 ?_
  refine blk_step (e' := [.non, .own [.int c1, .int m1], .val (daysD annN ds), .val (.int (waysT fs.length 0 : Nat)), .val (.int (fs.length - 1 : Nat)), .non, .non, .non, .non, .val (nsT annN fs), .non, .non]) (by simp! only [had, o_neDays, hhm, len_days, N.l, decide_true]) ?_
  refine blk_step (e' := [.non, .own [.int c2, .int m2], .val (daysD annN ds), .val (.int (waysT fs.length 0 : Nat)), .val (.int (fs.length - 1 : Nat)), s5, s6, .non, .non, .val (nsT annN fs), .non, .non]) (by simp! only [u8, hL2]) ?_
  refine blk_step (e' := [.non, .own [.int c3, .int m3], .val (daysD annN ds), .val (.int (waysT fs.length 0 : Nat)), .val (.int (fs.length - 1 : Nat)), s5, s6, .val (dayD annN d), .non, .val (nsT annN fs), .non, .non]) (by simp! only [hD]) ?_
  refine blk_step (e' := [.non, .own [.int c3, .int m3], .val (daysD annN ds), .val (.int (waysT fs.length 0 : Nat)), .val (.int (fs.length - 1 : Nat)), s5, s6, .val (dayD annN d), .non, .val (nsT annN fs), .non, .non]) (by simp! only [h1, h2, ix_days hi, q_neDay, decide_true, v5.fz, v5.rs, v6.fz, v6.rs]) ?_
  refine blk_step (e' := [.non, .own [.int c3, .int m3], .val (daysD annN ds), .val (.int (waysT fs.length 0 : Nat)), .val (.int (fs.length - 1 : Nat)), s5, s6, .val (dayD annN d), .non, .val (nsT annN fs), .non, .non]) (by simp! only [h3', l05_C1 (dc := []) (d := []), l05_C2 (dc := []) (d := []), hcat, q_neDay, decide_true, v5.fz, v5.rs, v6.fz, v6.rs]) ?_
  refine blk_step (e' := [.non, .own [.int c3, .int m3], .val (daysD annN ds), .val (.int (waysT fs.length 0 : Nat)), .val (.int (fs.length - 1 : Nat)), s5, s6, .val (dayD annN d), s8, .val (nsT annN fs), .non, .non]) (by simp! only [sq1, x_neg1, hL3]) (blk_stop rfl)
end
end TD

set_option Elab.async false
set_option maxRecDepth 100000
set_option linter.all false
set_option maxHeartbeats 0
namespace TD
open PySem PySem.Spec PyProof.Rows L2
/-! ### the head -/
def frees : List Str := ["range", "enumerate", "zip", "isinstance", "len", "list", "int", "bool", "str", "tuple", "all", "any", "sorted", "max", "min", "sum", "ValueError"]
def toD (d : DI) : He.DefD := ⟨(d.name, none), d.name, d.name, d.params, d.body, d.scope, [], []⟩
def fnH : List He.DefD := tb.defs.map toD
def gFa : Str × D → List He.Fa
  | (x, .str z) => [.str x z]
  | (x, .int i) => [.int x i]
  | (x, .tuple _) => [.glo x]
  | _ => []
def dvOf : D → He.Dv
  | .str z => .str z
  | .int i => .int i
  | _ => .non
def strD : D → Bool
  | .str _ => true
  | .int _ => true
  | _ => false
def gTb (K : PySem.W.Frag) : Str × D → Bool
  | (x, .tuple ds) => He.tupB K x (ds.map dvOf) && ds.all strD
  | (_, .str _) => true
  | (_, .int _) => true
  | _ => false
def lambs : List Str := (tb.defs.filter DI.lamb).map DI.name
def hasL : Bool := !lambs.isEmpty
def tfH : List He.Defn := lambs.map fun n => (n, none)
def faH : List He.Fa := (tb.defs.map fun d => He.Fa.glo d.name) ++ frees.map He.Fa.free ++ excs.map He.Fa.glo ++ excs.map He.Fa.exc ++ globs.flatMap gFa ++ (if hasL then [.glo "HallError"] else [])
/-- what the classes say -/
def clsB (K : PySem.W.Frag) (c : Str) : Bool := decide (PySem.W.findIn K (.ref (He.ga K c)) "__getattribute__" = some (some (.builtin "BaseException.__getattribute__"))) && decide (PySem.W.findIn K (.ref (He.ga K c)) "__getattr__" = some none) &&
  decide (PySem.W.subIn K (.ref (He.ga K c)) (.type "BaseException") = some true) && PySem.W.hasDictIn K (He.ga K c) && decide (PySem.W.findIn K (.ref (He.ga K c)) "__class__" = some (some (.builtin "object.__class__"))) &&
  decide (PySem.W.specialIn K (.builtin "object.__class__") "__get__" = some (some (.builtin "getset_descriptor.__get__"))) && decide (PySem.W.takesIn K (.builtin "object.__class__") = some true) && decide (PySem.W.mroIn K (He.ga K c) (.type "object") = some true) &&
  decide (PySem.W.kitOne K (.ref (He.ga K c)) (.type "ValueError") = some true) && decide (PySem.W.exmOne K (.ref (He.ga K c)) (.ref (He.ga K "HallError")) = some true) && kindsL.all fun c' => decide (PySem.W.kitOne K (.ref (He.ga K c)) (.ref (He.ga K c')) = some (c == c'))
def exB (K : PySem.W.Frag) : Bool := globs.all (gTb K) && (!hasL || kindsL.all (clsB K)) && decide ((tfH.map fun p => (He.cT K p).2).Nodup)
abbrev R : PySem.W.OpenRow := PySem.W.OpenLaw.row PySem.Challenge.rw_throngday_k05_whole_numbers
abbrev hk : PySem.W.Hook := He.hookX 4 faH fnH [] tfH exB
def ob (s : PySem.W.SharedT) : He.AlX := He.obsX 4 faH fnH [] tfH exB (HandSHeadRun.getT s)
theorem ob_eq (s : PySem.W.SharedT) : ob s = hk.obs s.abs := He.obsX_eq (HandSHeadRun.getT_eq s)
def bindOf : Stmt → Option Str
  | .FunctionDef name _ _ _ _ _ _ _ _ _ => some name
  | .ClassDef name .. => some name
  | .Assign [.Name x _] _ _ => some x
  | _ => none
def namesH : List Str := (Prog.main.body.filterMap bindOf).eraseDups.filter fun x => !(x == ("law" : Str)) && !(x == ("__name__" : Str))
def lawIx : Nat := Prog.main.body.length - 1
theorem run (w : World) : HandSHeadRun.RunEq R (PySem.W.view R.prog [lawIx]) hk ob 20000 namesH w := by
  intro os
  kernel_rfl
theorem tb_ok : ∀ d ∈ tb.defs, d.okB = true := by
  have h : tb.defs.all DI.okB = true := by kernel_rfl
  intro d hd
  exact List.all_eq_true.mp h d hd
theorem excs_db : ∀ c ∈ excs, (c == ("__debug__" : Str)) = false := by decide +kernel
theorem kinds_excs : hasL = true → ∀ c ∈ kindsL, c ∈ excs := by
  have h : (!hasL || kindsL.all fun c => excs.contains c) = true := by kernel_rfl
  intro hl c hc
  rw [hl] at h
  have h2 : (kindsL.all fun c => excs.contains c) = true := h
  exact List.contains_iff_mem.mp (List.all_eq_true.mp h2 c hc)
def tabsT (K : PySem.W.Frag) : List (Addr × Str) := tfH.map fun p => ((He.cT K p).2, p.1 ++ ".<locals>." ++ "<lambda>")
theorem nodup_inj {α β : Type} {f : α → β} : ∀ {l : List α}, (l.map f).Nodup → ∀ {a b : α}, a ∈ l → b ∈ l → f a = f b → a = b
  | [], _, a, b, ha, _, _ => by cases ha
  | c :: l, hn, a, b, ha, hb, e => by
    rw [List.map_cons, List.nodup_cons] at hn
    rcases List.mem_cons.mp ha with ea | ha'
    · rcases List.mem_cons.mp hb with eb | hb'
      · rw [ea, eb]
      · exact absurd (List.mem_map.mpr ⟨b, hb', by rw [← e, ea]⟩) hn.1
    · rcases List.mem_cons.mp hb with eb | hb'
      · exact absurd (List.mem_map.mpr ⟨a, ha', by rw [e, eb]⟩) hn.1
      · exact nodup_inj hn.2 ha' hb' e
section
variable {K : PySem.W.Frag} {h base : Heap} {mg : Str → Option Value} {w : World}
theorem fa_glo {x : Str} (hx : He.Fa.glo x ∈ faH) (X : K.In h) (G : h.Ns mainGlobals mg) (c : He.SaysD faH fnH K) : mg x = some (.ref (He.ga K x)) := He.glo_ok X G (c.facts hx)
theorem glo_def {d : DI} (hd : d ∈ tb.defs) : He.Fa.glo d.name ∈ faH := by
  unfold faH
  simp only [List.mem_append, List.mem_map]
  exact .inl (.inl (.inl (.inl (.inl ⟨d, hd, rfl⟩))))
theorem fa_free {f : Str} (hf : f ∈ frees) : He.Fa.free f ∈ faH := by
  unfold faH
  simp only [List.mem_append, List.mem_map]
  exact .inl (.inl (.inl (.inl (.inr ⟨f, hf, rfl⟩))))
theorem fa_exg {e : Str} (he : e ∈ excs) : He.Fa.glo e ∈ faH := by
  unfold faH
  simp only [List.mem_append, List.mem_map]
  exact .inl (.inl (.inl (.inr ⟨e, he, rfl⟩)))
theorem fa_exc {e : Str} (he : e ∈ excs) : He.Fa.exc e ∈ faH := by
  unfold faH
  simp only [List.mem_append, List.mem_map]
  exact .inl (.inl (.inr ⟨e, he, rfl⟩))
theorem fa_glb {p : Str × D} (hp : p ∈ globs) {a : He.Fa} (ha : a ∈ gFa p) : a ∈ faH := by
  unfold faH
  simp only [List.mem_append, List.mem_flatMap]
  exact .inl (.inr ⟨p, hp, ha⟩)
theorem fa_hall (hl : hasL = true) : He.Fa.glo "HallError" ∈ faH := by
  unfold faH
  rw [hl]
  simp only [List.mem_append]
  exact .inr (by simp)
theorem rp_dvs {G : Hp} : ∀ {ds : List D}, ds.all strD = true → RpAll K G ((ds.map dvOf).map (He.Dv.v K)) ds
  | [], _ => .nil
  | d :: ds, hd => by
    rw [List.all_cons, Bool.and_eq_true] at hd
    refine .cons ?_ (rp_dvs hd.2)
    cases d with
    | str z => exact .str z
    | int i => exact .int i
    | _ => cases hd.1
/-- a def by its place: its head facts -/
theorem def_at {d : DI} (hd : d ∈ tb.defs) (X : K.In h) (G : h.Ns mainGlobals mg) (c : He.SaysD faH fnH K) : ∃ fd, FunD K d.name d.name d.params d.body d.scope [] [] (He.fAd K (d.name, none)) fd ∧ mg d.name = some (.ref (He.fAd K (d.name, none))) := by
  obtain ⟨fd, F⟩ := c.defs (d := toD d) (List.mem_map.mpr ⟨d, hd, rfl⟩)
  exact ⟨fd, F, fa_glo (glo_def hd) X G c⟩
theorem sc_of {N ps : List Str} {sc : Scope} (h : fnScopeB N ps sc = true) : FnScope N ps sc := fnScope_of h
def posT : List Pos := [⟨140, 15, 140, 19⟩, ⟨140, 15, 140, 21⟩, ⟨140, 8, 140, 21⟩, ⟨141, 11, 141, 20⟩, ⟨142, 15, 142, 24⟩, ⟨142, 25, 142, 26⟩, ⟨142, 15, 142, 27⟩, ⟨142, 8, 142, 27⟩, ⟨141, 4, 142, 27⟩, ⟨139, 4, 142, 27⟩]
def posR : List Pos := [⟨130, 4, 130, 9⟩, ⟨130, 13, 130, 23⟩, ⟨130, 24, 130, 25⟩, ⟨130, 27, 130, 34⟩, ⟨130, 13, 130, 35⟩, ⟨130, 37, 130, 47⟩, ⟨130, 48, 130, 49⟩, ⟨130, 51, 130, 58⟩, ⟨130, 37, 130, 59⟩, ⟨130, 61, 130, 71⟩, ⟨130, 72, 130, 73⟩, ⟨130, 75, 130, 81⟩, ⟨130, 61, 130, 82⟩, ⟨130, 84, 130, 94⟩, ⟨130, 95, 130, 96⟩, ⟨130, 98, 130, 107⟩, ⟨130, 84, 130, 108⟩, ⟨130, 12, 130, 109⟩, ⟨130, 4, 130, 109⟩, ⟨131, 4, 131, 9⟩, ⟨131, 12, 131, 17⟩, ⟨131, 21, 131, 31⟩, ⟨131, 32, 131, 33⟩, ⟨131, 35, 131, 44⟩, ⟨131, 21, 131, 45⟩, ⟨131, 47, 131, 57⟩, ⟨131, 58, 131, 59⟩, ⟨131, 61, 131, 70⟩, ⟨131, 47, 131, 71⟩, ⟨131, 73, 131, 83⟩, ⟨131, 84, 131, 85⟩, ⟨131, 87, 131, 94⟩, ⟨131, 73, 131, 95⟩, ⟨131, 20, 131, 96⟩, ⟨131, 12, 131, 96⟩, ⟨131, 4, 131, 96⟩, ⟨132, 4, 132, 9⟩, ⟨132, 12, 132, 17⟩, ⟨132, 21, 132, 31⟩, ⟨132, 32, 132, 33⟩, ⟨132, 35, 132, 44⟩, ⟨132, 21, 132, 45⟩, ⟨132, 47, 132, 57⟩, ⟨132, 58, 132, 59⟩, ⟨132, 61, 132, 67⟩, ⟨132, 47, 132, 68⟩, ⟨132, 70, 132, 80⟩, ⟨132, 81, 132, 82⟩, ⟨132, 84, 132, 91⟩, ⟨132, 70, 132, 92⟩, ⟨132, 94, 132, 104⟩, ⟨132, 105, 132, 106⟩, ⟨132, 108, 132, 115⟩, ⟨132, 94, 132, 116⟩, ⟨132, 20, 132, 117⟩, ⟨132, 12, 132, 117⟩, ⟨132, 4, 132, 117⟩, ⟨133, 4, 133, 9⟩, ⟨133, 13, 133, 22⟩, ⟨133, 24, 133, 33⟩, ⟨133, 35, 133, 43⟩, ⟨133, 45, 133, 56⟩, ⟨133, 58, 133, 69⟩, ⟨133, 71, 133, 82⟩, ⟨133, 84, 133, 93⟩, ⟨133, 95, 133, 106⟩, ⟨133, 12, 133, 107⟩, ⟨133, 4, 133, 107⟩, ⟨134, 4, 134, 9⟩, ⟨134, 12, 134, 17⟩, ⟨134, 21, 134, 29⟩, ⟨134, 31, 134, 40⟩, ⟨134, 42, 134, 51⟩, ⟨134, 20, 134, 52⟩, ⟨134, 12, 134, 52⟩, ⟨134, 4, 134, 52⟩, ⟨135, 7, 135, 10⟩, ⟨135, 12, 135, 15⟩, ⟨135, 16, 135, 20⟩, ⟨135, 12, 135, 21⟩, ⟨135, 26, 135, 30⟩, ⟨135, 34, 135, 39⟩, ⟨135, 11, 135, 40⟩, ⟨135, 7, 135, 41⟩, ⟨135, 45, 135, 46⟩, ⟨135, 7, 135, 46⟩, ⟨135, 54, 135, 64⟩, ⟨135, 65, 135, 66⟩, ⟨135, 68, 135, 78⟩, ⟨135, 54, 135, 79⟩, ⟨135, 50, 135, 79⟩, ⟨135, 7, 135, 79⟩, ⟨136, 16, 136, 25⟩, ⟨136, 27, 136, 34⟩, ⟨136, 15, 136, 35⟩, ⟨136, 8, 136, 35⟩, ⟨135, 4, 136, 35⟩, ⟨137, 12, 137, 21⟩, ⟨137, 23, 137, 28⟩, ⟨137, 29, 137, 34⟩, ⟨137, 29, 137, 40⟩, ⟨137, 41, 137, 45⟩, ⟨137, 29, 137, 46⟩, ⟨137, 23, 137, 47⟩, ⟨137, 11, 137, 48⟩, ⟨137, 4, 137, 48⟩]
def ptF (i : Nat) : Pos := posT.getD i ⟨0, 0, 0, 0⟩
def prF (i : Nat) : Pos := posR.getD i ⟨0, 0, 0, 0⟩
def diTold : DI := (tb.find "_law_told").getD ⟨"", ⟨[], [], none, [], [], none, []⟩, [], ⟨.function, [], false, false, []⟩⟩
def diTerm : DI := (tb.find "_law_term").getD ⟨"", ⟨[], [], none, [], [], none, []⟩, [], ⟨.function, [], false, false, []⟩⟩
theorem mem_told : diTold ∈ tb.defs ∧ diTold.name = "_law_told" ∧ diTold.body = toldBody ptF := by
  refine ⟨List.mem_of_getElem? (i := 22) (by kernel_rfl), by kernel_rfl, by kernel_rfl⟩
theorem mem_term : diTerm ∈ tb.defs ∧ diTerm.name = "_law_term" ∧ diTerm.body = termBody prF cScope := by
  refine ⟨List.mem_of_getElem? (i := 21) (by kernel_rfl), by kernel_rfl, by kernel_rfl⟩
theorem toldF (X : K.In h) (G : h.Ns mainGlobals mg) (c : He.SaysD faH fnH K) (hL : hasL = true) (ex : kindsL.all (clsB K) = true) : ToldF ⟨Prog, w, K, mg, base⟩ (fun x => .ref (He.ga K x)) := by
  obtain ⟨fd1, F1, m1⟩ := def_at mem_told.1 X G c
  obtain ⟨fd2, F2, m2⟩ := def_at mem_term.1 X G c
  have b1 := binds_of (x := ⟨Prog, w, K, mg, base⟩) F1 (tb_ok _ mem_told.1)
  have b2 := binds_of (x := ⟨Prog, w, K, mg, base⟩) F2 (tb_ok _ mem_term.1)
  rw [mem_told.2.1, mem_told.2.2] at F1
  rw [mem_told.2.1] at m1
  rw [mem_term.2.1, mem_term.2.2] at F2
  rw [mem_term.2.1] at m2
  have fr : ∀ f ∈ frees, mg f = none := fun f hf => He.free_ok X G (c.facts (fa_free hf))
  have cls : ∀ k ∈ kindsL, clsB K k = true := fun k hk => List.all_eq_true.mp ex k hk
  refine ⟨_, _, He.ga K "HallError", fd1, fd2, ptF, prF, diTold.scope, cScope, diTerm.scope, diTold.params, diTerm.params, ⟨F1, b1, sc_of (by kernel_rfl), by kernel_rfl, by kernel_rfl, by kernel_rfl, by kernel_rfl⟩, ⟨F2, b2, sc_of (by kernel_rfl), ?_, ?_, ?_, fun _ _ _ _ => by kernel_rfl, fun _ _ _ _ => by kernel_rfl, by kernel_rfl⟩, ⟨fun k hk => ?_, fun k hk k' hk' => ?_, fr _ (by decide +kernel), fr _ (by decide +kernel), fr _ (by decide +kernel), fr _ (by decide +kernel)⟩, m1, m2, fa_glo (fa_hall hL) X G c, fun k hk => ?_⟩
  · have q : ((("isinstance" : Str) :: "sum" :: "ValueError" :: kindsL).all fun y => decide (diTerm.scope.names.lookup y = some .globalImplicit)) = true := by kernel_rfl
    exact fun y hy => of_decide_eq_true (List.all_eq_true.mp q y hy)
  · have q : ((["e", "flags", "kinds"] : List Str).all fun y => decide (diTerm.scope.names.lookup y = some .local)) = true := by kernel_rfl
    exact fun y hy => of_decide_eq_true (List.all_eq_true.mp q y hy)
  · exact blkOk_by (by kernel_rfl)
  · have q := cls k hk
    unfold clsB at q
    simp only [Bool.and_eq_true, decide_eq_true_eq] at q
    obtain ⟨⟨⟨⟨⟨⟨⟨⟨⟨⟨q1, q2⟩, q3⟩, q4⟩, q5⟩, q6⟩, q7⟩, q8⟩, q9⟩, _⟩, _⟩ := q
    exact ⟨He.ga K k, rfl, fa_glo (fa_exg (kinds_excs hL k hk)) X G c, ⟨q1, q2, q3, q4, q5, q6, q7, q8⟩, q9⟩
  · have q := cls k hk
    unfold clsB at q
    simp only [Bool.and_eq_true, List.all_eq_true, decide_eq_true_eq] at q
    exact q.2 k' hk'
  · have q := cls k hk
    unfold clsB at q
    simp only [Bool.and_eq_true, decide_eq_true_eq] at q
    exact q.1.2

theorem lam_at (d : DI) (hd : d ∈ tb.defs) (hl : d.lamb = true) : ((d.name, none) : He.Defn) ∈ tfH := by
  unfold tfH lambs
  exact List.mem_map.mpr ⟨d.name, List.mem_map.mpr ⟨d, List.mem_filter.mpr ⟨hd, hl⟩, rfl⟩, rfl⟩
theorem tbOk (X : K.In h) (G : h.Ns mainGlobals mg) (c : He.SaysD faH fnH K) (ex : exB K = true) (TB : ∀ p ∈ tfH, LamX.TabB base mg (He.cT K p).1 (He.cT K p).2) : TbOk ⟨Prog, w, K, mg, base⟩ (fun x => .ref (He.ga K x)) tb globs excs (tabsT K) := by
  unfold exB at ex
  rw [Bool.and_eq_true, Bool.and_eq_true, decide_eq_true_eq] at ex
  obtain ⟨⟨exg, exc⟩, exn⟩ := ex
  refine ⟨rfl, fun d hd => ?_, tb_ok, fun f hf => ?_, fun p hp => ?_, fun e he => ?_, fun ⟨d, hd, hl⟩ => ?_, fun d hd hl a fd F hm => ?_⟩
  · obtain ⟨fd, F, hm⟩ := def_at hd X G c
    exact ⟨_, fd, F, hm⟩
  · exact He.free_ok X G (c.facts (fa_free (by
      unfold frees
      simp only [List.mem_cons, List.not_mem_nil, or_false] at hf ⊢
      rcases hf with h | h | h | h | h | h | h | h | h | h | h | h | h | h | h | h <;> subst h <;> simp)))
  · have q := List.all_eq_true.mp exg p hp
    obtain ⟨x, d⟩ := p
    cases d with
    | str z =>
      obtain ⟨t, ht⟩ := He.str_ok X G (c.facts (f := .str x z) (fa_glb hp (by simp [gFa])))
      exact ⟨_, .str z, ht, ⟨t, rfl⟩, fun _ => .str z⟩
    | int i =>
      obtain ⟨t, ht⟩ := He.int_ok X G (c.facts (f := .int x i) (fa_glb hp (by simp [gFa])))
      exact ⟨_, .int i, ht, ⟨t, rfl⟩, fun _ => .int i⟩
    | tuple ds =>
      have q' : (He.tupB K x (ds.map dvOf) && ds.all strD) = true := q
      rw [Bool.and_eq_true] at q'
      exact ⟨_, .ref (He.ga K x), fa_glo (fa_glb hp (by simp [gFa])) X G c, rfl, fun G' => .tup (He.tupB_ok q'.1 G') (rp_dvs q'.2)⟩
    | _ => cases q
  · obtain ⟨a1, a2, a3, a4⟩ := He.exc_ok (c.facts (fa_exc he))
    exact ⟨⟨He.ga K e, rfl, fa_glo (fa_exg he) X G c, a1, a2, a3, a4⟩, excs_db e he⟩
  · have hL : hasL = true := by
      unfold hasL lambs
      cases q : ((tb.defs.filter DI.lamb).map DI.name) with
      | nil =>
        have hm : d.name ∈ (tb.defs.filter DI.lamb).map DI.name := List.mem_map.mpr ⟨d, List.mem_filter.mpr ⟨hd, hl⟩, rfl⟩
        rw [q] at hm
        cases hm
      | cons _ _ => rfl
    exact toldF X G c hL (by rw [hL] at exc; exact exc)
  · have e := (def_at hd X G c)
    obtain ⟨fd', F', hm'⟩ := e
    have ea : a = He.fAd K (d.name, none) := by
      have := hm.symm.trans hm'
      cases this
      rfl
    subst ea
    obtain ⟨oc, od, dV, kV, doc, pm, an, cdv, ct, osl, efd, lk, hcd, _, _⟩ := F.ex
    obtain ⟨cc, hcc⟩ := He.codeIn_ref hcd
    have hcode : fd.code = .ref cc := by rw [efd]; exact hcc
    have hco : He.codeOf K (d.name, none) = cc := He.codeOf_eq lk hcode
    have hmem := lam_at d hd hl
    refine ⟨cc, (He.cT K (d.name, none)).2, hcode, ?_, List.mem_map.mpr ⟨_, hmem, rfl⟩, fun p hp e => ?_⟩
    · have := TB _ hmem
      rw [show (He.cT K (d.name, none)).1 = cc from hco] at this
      exact this
    · obtain ⟨q, hq, rfl⟩ := List.mem_map.mp hp
      have e' : (He.cT K q).2 = (He.cT K (d.name, none)).2 := e
      have inj := nodup_inj exn hq hmem e'
      rw [inj]
end
end TD

set_option Elab.async false
set_option maxRecDepth 100000
set_option linter.all false
set_option maxHeartbeats 0
namespace TD
open PySem PySem.Spec PyProof.Rows L2
def top (i : Nat) : Stmt := Prog.main.body.getD i (.Pass ⟨0, 0, 0, 0⟩)
def ofSt (x : Str) (st : Stmt) : DI := ⟨x, defArgs st, defBody st, defScope st⟩
abbrev sCell : Stmt := top 34
abbrev sRounds : Stmt := top 37
abbrev sLaw : Stmt := top 43
def cellDI : DI := ofSt "_law_cell" sCell
def roundsDI : DI := ofSt "_law_rounds" sRounds
def lawDI : DI := ofSt "law" sLaw
theorem mem_cell : cellDI ∈ tb.defs := List.mem_of_getElem? (i := 17) (by kernel_rfl)
theorem mem_rounds : roundsDI ∈ tb.defs := List.mem_of_getElem? (i := 20) (by kernel_rfl)
theorem mem_law : lawDI ∈ tb.defs := List.mem_of_getElem? (i := 26) (by kernel_rfl)
def lawBody : List Stmt := match defBody sLaw with
  | .For _ _ b _ _ :: _ => b
  | _ => []
theorem e_law (k : Nat) : blockL (exec (tb.cst lawDI.N lawDI.lamb (runK tb k) (lowK tb k)) synFuel ⟨lawDI.scope, lawDI.scope⟩ synFuel) lawBody = c_law (runK tb k) (lowK tb k) := by kernel_rfl
theorem lawN : lawDI.N.length = 12 := by kernel_rfl
theorem FnOk.cx0 {P : Program} {w : World} {K : PySem.W.Frag} {mg : Str → Option Value} {base : Heap} {k : Nat} {f : Addr} {fd : FuncData} {ps : List Str} {T : List (Addr × Str)} (F : FnOk P w K mg base (L2N.CX P w) k f fd ps (spLaw K T)) : FnOk P w K mg base CX0 k f fd ps (spLaw K T) :=
  ⟨F.len, fun A outer s H args us vs Q E hr he hb hv hs => codeAny_mono (F.run A outer s H args us vs Q (fun _ _ _ => False) hr he hb hv hs) fun r s' q => by
    cases r with
    | ok u => cases u <;> exact q
    | error e => obtain ⟨_, _, _, _, _, _, _, _, _, _, _, _, z⟩ := q; exact z.elim⟩
section
variable {x : Fx} {cl : Str → Value}
theorem law_ok {T : List (Addr × Str)} (B : TbOk x cl tb globs excs T) : ∃ fl fdl, FunD x.K "law" "law" lawDI.params lawDI.body lawDI.scope [] [] fl fdl ∧ x.mg "law" = some (.ref fl) ∧ FnOk x.P x.w x.K x.mg x.base (L2N.CX x.P x.w) 31 fl fdl ["script"] (spLaw x.K T) := by
  obtain ⟨fc, fdc, FC, mC⟩ := B.defs cellDI mem_cell
  obtain ⟨fr, fdr, FR, mR⟩ := B.defs roundsDI mem_rounds
  obtain ⟨fl, fdl, FL, mL⟩ := B.defs lawDI mem_law
  have hfree := B.free
  have ml : x.mg "len" = none := hfree _ (by simp)
  have okC : FnOk x.P x.w x.K x.mg x.base CX0 29 fc fdc ["script", "k"] (spCell x.K) := ok_cell (kk := 28) FC ⟨rfl, rfl, rfl, by decide +kernel, rfl, by decide +kernel, by decide +kernel⟩ (.inl rfl) (.inl rfl) rfl ml
  have bC : Binds x.K fdc ["script", "k"] [] := binds_of FC (tb_ok _ mem_cell)
  have okR : FnOk x.P x.w x.K x.mg x.base CX0 30 fr fdr ["script", "high"] (spRounds x.K) := ok_rounds (kk := 29) FR ⟨rfl, rfl, rfl, by decide +kernel, rfl, by decide +kernel, by decide +kernel⟩ (by decide +kernel) (.inr (.inl rfl)) (.inl rfl) (by unfold Vis; decide +kernel) (by unfold L2.Loc; decide +kernel) (by unfold Vis; decide +kernel) (by decide +kernel) (by decide +kernel) rfl rfl rfl rfl ml (hfree _ (by simp)) (hfree _ (by simp)) (hfree _ (by simp)) okC mC FC.kp bC
  have bR : Binds x.K fdr ["script", "high"] [] := binds_of FR (tb_ok _ mem_rounds)
  refine ⟨fl, fdl, FL, mL, ?_⟩
  refine ok_law (kk := 30) (n := 3) (i := 1) (d := lawDI) (body := lawBody) B FL mem_law rfl rfl mL (tb_ok _ mem_law) rfl (by decide) (by kernel_rfl) (by kernel_rfl) (by unfold Vis; decide +kernel) (by unfold L2.Loc; decide +kernel) (by kernel_rfl) okR mR FR.kp bR fun c => ?_
  rw [e_law, lawN]
  exact law_run c
end
theorem facts {w : World} {K : PySem.W.Frag} {h : Heap} {mg : Str → Option Value} {f : Addr} (X : K.In h) (G : h.Ns mainGlobals mg) (hfa : mg ("law" : Str) = some (.ref f)) (c : He.SaysX faH fnH [] tfH exB w h K) :
    LamX.LawAtS PySem.Challenge.rw_throngday_k05_whole_numbers w K CX0 31 63 "script" mg f h := by
  obtain ⟨fd0, FL, mL⟩ := def_at (h := h) (mg := mg) mem_law X G c.t.d
  have e := hfa.symm.trans mL
  cases e
  have b := FunD.bindsA (ps := ["script"]) FL fun _ _ _ _ _ _ us hl => match us, hl with | [_], _ => rfl
  refine ⟨fd0, tfH.map (He.cT K), spLaw K (tabsT K), fun p hp => ?_, fun p hp => ?_, fun p hp => ?_, fun s v => b s [v] rfl, fun H a ns hl _ hT hS => ⟨a, ns, rfl, hS, hl, fun p hp => ?_, fun _ => rfl⟩, fun base hb hn TB => ?_⟩
  · obtain ⟨q, hq, rfl⟩ := List.mem_map.mp hp
    exact c.empty q hq
  · obtain ⟨q, hq, rfl⟩ := List.mem_map.mp hp
    exact c.out q hq
  · obtain ⟨q, hq, rfl⟩ := List.mem_map.mp hp
    exact PySem.W.codeHd_of_K X (c.hd q hq)
  · obtain ⟨q, hq, rfl⟩ := List.mem_map.mp hp
    exact LamX.TabS.nil (hT _ (List.mem_map.mpr ⟨q, hq, rfl⟩))
  · have B : TbOk ⟨Prog, w, K, mg, base⟩ (fun x => .ref (He.ga K x)) tb globs excs (tabsT K) := tbOk (h := base) hb hn c.t.d c.more fun p hp => TB _ (List.mem_map.mpr ⟨p, hp, rfl⟩)
    obtain ⟨fl', fd', FL', mL', ok⟩ := law_ok B
    have e2 := mL.symm.trans mL'
    cases e2
    have e3 : fd' = fd0 := by
      obtain ⟨oc, od, dV, kV, doc, pm, an, cdv, ct, osl, q1, q2, _⟩ := FL.ex
      obtain ⟨oc', od', dV', kV', doc', pm', an', cdv', ct', osl', q1', q2', _⟩ := FL'.ex
      rw [q2] at q2'
      cases q2'
      rfl
    rw [← e3]
    exact FnOk.cx0 ok
end TD
open PySem PySem.W PySem.Calls PyProof.Rows
theorem PySem.Challenge.cw_throngday_k05_whole_numbers_holds : PySem.Challenge.rw_throngday_k05_whole_numbers.Holds := by
  w_on; o_law
  refine HandSHeadRun.head_any (r := OpenLaw.row PySem.Challenge.rw_throngday_k05_whole_numbers) (q := view (OpenLaw.row PySem.Challenge.rw_throngday_k05_whole_numbers).prog [TD.lawIx]) (H := TD.hk) (ob := TD.ob) (M := 20000) (loose := TD.namesH) (d := HandSHeadRun.topDef (OpenLaw.row PySem.Challenge.rw_throngday_k05_whole_numbers).prog TD.lawIx) (kwd := []) TD.ob_eq
    (by kernel_rfl) (fun s => by kernel_rfl) TD.run (by kernel_rfl) (by kernel_rfl) (by kernel_rfl) (by rfl) (by first | assumption | decide +kernel) (by decide +kernel) ⟨rfl, rfl, rfl, rfl, rfl, by decide +kernel⟩ ?hw ?hc
  case hw => w_witness2
  case hc =>
    refine LamX.walk_ofTsE (l := PySem.Challenge.rw_throngday_k05_whole_numbers) (n := 63) (k := 31) (x := "script") (CX := fun _ => L2.CX0) rfl (by decide) (by kernel_rfl) ⟨rfl, by decide, by decide⟩ ?F (fun _ _ _ _ _ z => z)
    intro w mg fa h Y G hmg0
    obtain ⟨K, KX, c⟩ := Y
    have hmg : mg ("law" : PySem.Str) = some (.ref fa) := by
      have e : (HandSHeadRun.topDef (OpenLaw.row PySem.Challenge.rw_throngday_k05_whole_numbers).prog TD.lawIx).name = ("law" : PySem.Str) := by kernel_rfl
      rw [← e]
      exact hmg0
    exact ⟨K, KX, TD.facts KX G hmg c⟩
