import PyProof.Rows.All
import HandS.ForMost
import HandS.ForSpec
import HandS.TupAny
import HandS.TupMul
import HandS.TupLe
import HandS.TupLen
import HandS.Wide
import HandS.Deep
import HandS.Gcd
import HandS.SortInts
import HandS.IsInst
import HandS.Strs
import HandS.Lambda
import HandS.Nested
import HandS.NestedK
import HandS.HeadWalk
import HandS.ExcSuper
import HandS.ExcIs
import HandS.Flow
import HandS.Zip
import KE.DatumIndex
import HandS.Small
import HandS.WordsExc
import HandS.ExcValue
import HandS.ExcField
import HandS.ExcOwn
import KE.KExcIs
import KE.KExcSuper
import HandS.ExcInit
import HandS.EndTab
import KE.KNestM
import PySem.Challenge.RW_drawnsteps_k00_words_and_ratios
import PyProof.StrCaseBound
import Wide.All
import OpenK.AllK
import Wide.FinOn
set_option Elab.async false
set_option linter.all false
set_option maxRecDepth 100000
/-! Ev1: pure data, the compact tree, its evaluator. -/
namespace Ev
open PySem L2

/-! ### the compact tree -/
inductive Bop | add | sub | mul | fdiv | mod | pow
  deriving DecidableEq, Repr
inductive Cop | eq | ne | lt | le | gt | ge | is | isnot | isin | notin
  deriving DecidableEq, Repr
inductive Ty | int | bool | str | tuple | list | dict | cls (c : Str)
  deriving DecidableEq, Repr
inductive Tg | nm (i : Nat) | tp (is : List Nat) | bad
  deriving DecidableEq, Repr
/-- built-in functions of one argument -/
inductive B1 | len | abs | int | all | any | sum | tuple | list | sorted | min | max | str | set
  deriving DecidableEq, Repr
mutual
inductive E where
  | bad | non | bl (b : Bool) | int (i : Int) | str (x : Str)
  | var (i : Nat) | bor (i : Nat) | glob (x : Str)
  | tup (es : Es) | lst (es : Es)
  | bin (o : Bop) (a b : E) | neg (a : E) | not (a : E)
  | cmp (o : Cop) (a b : E) | cmp2 (o p : Cop) (a b c : E)
  | and (a b : E) | or (a b : E) | ite (c a b : E)
  | ix (a i : E) | slc (a : E) (lo hi : Es) -- each at most one
  | fld (a : E) (f : Str)
  | call (f : Str) (es : Es) | callk (f : Str) (es kes : Es) (perm : List Nat) | callv (i : Nat) (es : Es)
  | b1 (b : B1) (a : E) | gcd (a b : E) | min2 (a b : E) | max2 (a b : E) | dnew | isin (a : E) (ts : List Ty)
  | listI (i : I)
  | index (a b : E) | join (a b : E) | upper (a : E) | get (a k d : E)
  | comp (own : List Nat) (tg : Tg) (i : I) (cs : Es) (elt : E)
  | comp2 (own : List Nat) (tg : Tg) (i : I) (cs : Es) (tg2 : Tg) (i2 : I) (cs2 : Es) (elt : E)
  | lam (b : E) (caps : List Nat) | caught (caps : List Nat) (e : E) | cgv (i : Nat) (vs : List Nat)
  | dr (i : Nat) (f : Nat) | gne (i : Nat) | popg (i : Nat) -- the draws: a field (0 rest, 1 turn, 2 cells); some great left; the next great
inductive Es where
  | nil | cons (e : E) (es : Es)
inductive I where
  | e (e : E) | range1 (a : E) | range2 (a b : E) | zip (a b : E) | enum (e : E)
end
instance : Inhabited E := ⟨.bad⟩

mutual
inductive S where
  | bad
  | asg (tg : Tg) (c : Bool) (e : E)
  | par (i j : Nat) (a b : E)
  | set (i : Nat) (ix : E) (e : E)
  | app (i : Nat) (e : E) | ext (i : Nat) (e : E) | pop (tg : Tg) (i : Nat)
  | exp (e : E) | ret (e : E) | retN | pass | cont
  | ite (c : E) (a b : Ss)
  | for_ (tg : Tg) (i : I) (b : Ss)
  | while_ (c : E) (b : Ss)
  | raise (c : Str) (es : Es) | raise0 (c : Str)
  | drSet (i : Nat) (f : Nat) (e : E)
inductive Ss where
  | nil | cons (s : S) (ss : Ss)
end

/-! ### data -/
inductive D where
  | non | bl (b : Bool) | int (i : Int) | str (x : Str)
  | tup (ds : List D) | lst (ds : List D)
  | dK (kvs : List (Key × D)) | dT (kvs : List (List Key × D))
  | fn (f : Str) | clo (b : E) (caps : List Nat) | exc (c : Str) (fs : List D) | drw | scr (ns : List Int)
instance : Inhabited D := ⟨.non⟩
abbrev Env := List (Option D)

/-- the law's draws -/
structure DS where
  great : List Int
  cells : List Int
  rest : Int
  turn : Int

inductive Res (α : Type) where
  | ok (a : α) (st : DS) | raise (c : Str) (fs : List D) (st : DS) | stuck
def Res.bind {α β : Type} : Res α → (α → DS → Res β) → Res β
  | .ok a st, f => f a st
  | .raise c fs st, _ => .raise c fs st
  | .stuck, _ => .stuck
def Res.noRaise {α : Type} : Res α → Res α
  | .raise _ _ _ => .stuck
  | r => r
def ofO {α : Type} : Option α → DS → Res α
  | some a, st => .ok a st
  | none, _ => .stuck
@[simp] theorem Res.bind_ok {α β : Type} (a : α) (st : DS) (f : α → DS → Res β) : (Res.ok a st).bind f = f a st := rfl
@[simp] theorem Res.bind_raise {α β : Type} (c : Str) (fs : List D) (st : DS) (f : α → DS → Res β) : (Res.raise c fs st).bind f = .raise c fs st := rfl
@[simp] theorem Res.bind_stuck {α β : Type} (f : α → DS → Res β) : (Res.stuck : Res α).bind f = .stuck := rfl
@[simp] theorem ofO_some {α : Type} (a : α) (st : DS) : ofO (some a) st = .ok a st := rfl
@[simp] theorem ofO_none {α : Type} (st : DS) : (ofO (none : Option α) st) = .stuck := rfl

def lk : Env → Nat → Option D
  | [], _ => none
  | d :: _, 0 => d
  | _ :: r, i + 1 => lk r i
def st1 : Env → Nat → Option D → Env
  | [], _, _ => []
  | _ :: r, 0, d => d :: r
  | x :: r, i + 1, d => x :: st1 r i d
def wipeE (env : Env) : List Nat → Env
  | [] => env
  | v :: vs => st1 (wipeE env vs) v none

def asB : D → Option Bool
  | .bl b => some b
  | _ => none
def asI : D → Option Int
  | .int i => some i
  | _ => none
/-- what is walked -/
def itemsD : D → Option (List D)
  | .tup ds => some ds
  | .lst ds => some ds
  | .str s => if s.cps.size ≤ 1000000 then some (s.cps.toList.map fun c => .str ⟨#[c]⟩) else none
  | .scr ns => if ns.length ≤ 1000000 then some (ns.map .int) else none
  | _ => none
/-- a list or a tuple -/
def seqD : D → Option (List D)
  | .tup ds => some ds
  | .lst ds => some ds
  | _ => none

/-! no lambda in it -/
mutual
def noClo : D → Bool
  | .clo _ _ => false
  | .tup ds => noClos ds
  | .lst ds => noClos ds
  | .dK kvs => noCloK kvs
  | .dT kvs => noCloT kvs
  | .exc _ fs => noClos fs
  | _ => true
def noClos : List D → Bool
  | [] => true
  | d :: r => noClo d && noClos r
def noCloK : List (Key × D) → Bool
  | [] => true
  | (_, d) :: r => noClo d && noCloK r
def noCloT : List (List Key × D) → Bool
  | [] => true
  | (_, d) :: r => noClo d && noCloT r
end
/-- == as Python's -/
def pyI : D → Option Int
  | .int i => some i
  | .bl b => some (if b then 1 else 0)
  | _ => none
mutual
def eqD : D → D → Bool
  | .non, .non => true
  | .str x, .str y => x == y
  | .tup a, .tup b => eqDs a b
  | .lst a, .lst b => eqDs a b
  | .int i, e => pyI e == some i
  | .bl b, e => pyI e == some (if b then 1 else 0)
  | _, _ => false
def eqDs : List D → List D → Bool
  | [], [] => true
  | a :: r, b :: s => eqD a b && eqDs r s
  | _, _ => false
end
/-- data that == tells apart here -/
def eqN : Nat → D → Bool
  | _, .non => true
  | _, .bl _ => true
  | _, .int _ => true
  | _, .str x => PyData.strOk x
  | n + 1, .tup ds => ds.all (eqN n)
  | n + 1, .lst ds => ds.all (eqN n)
  | _, _ => false
def sizeOk (i j : Int) : Bool := decide (i.natAbs.log2 + j.natAbs.log2 < 1000000)
def binop : Bop → D → D → Option D
  | .add, .int i, .int j => some (.int (i + j))
  | .add, .lst a, .lst b => if a.length + b.length ≤ 1000000 then some (.lst (a ++ b)) else none
  | .add, .tup a, .tup b => if a.length + b.length ≤ 1000000 then some (.tup (a ++ b)) else none
  | .add, .str a, .str b => if a.length + b.length ≤ 1000000 then some (.str (a ++ b)) else none
  | .sub, .int i, .int j => some (.int (i - j))
  | .mul, .int i, .int j => if sizeOk i j then some (.int (i * j)) else none
  | .mul, .lst a, .int k => if a.length * k.toNat ≤ 1000000 && decide (k ≤ 1000000) && decide (-1000000 ≤ k) then some (.lst (List.replicate k.toNat a).flatten) else none
  | .mul, .tup a, .int k => if decide (k ≤ 1000) && (!a.isEmpty) && decide (a.length ≤ 1000) && decide (2 ≤ k) then some (.tup (List.replicate k.toNat a).flatten) else none
  | .mul, .str a, .int k => if (decide (-1000 ≤ k) && decide (k ≤ 1000)) && decide (a.length ≤ 1000) then some (.str (Txt.mul a k)) else none
  | .fdiv, .int i, .int j => if j ≠ 0 ∧ j.natAbs.log2 < 9000 then some (.int (i.fdiv j)) else none
  | .mod, .int i, .int j => if 0 < j then some (.int (i % j)) else none
  | .pow, .int i, .int j => if 0 ≤ j && decide (j ≤ 1000000) && decide (i.natAbs < 2 ^ 64) then some (.int (i ^ j.toNat)) else none
  | _, _, _ => none

def strLt (x y : Str) : Bool := decide (x.cps.toList < y.cps.toList)
def keyD : D → Option Key
  | .int i => some (.inl i)
  | .str x => some (.inr x)
  | _ => none
def keysD : List D → Option (List Key)
  | [] => some []
  | d :: r => match keyD d, keysD r with
    | some k, some ks => some (k :: ks)
    | _, _ => none
def getK {κ : Type} [DecidableEq κ] (kvs : List (κ × D)) (k : κ) : Option D := (kvs.find? fun p => decide (p.1 = k)).map (·.2)
def isinD (x y : D) : Option Bool := match y with
  | .lst ds => if eqN 60 x && ds.all (eqN 59) then some (ds.any fun z => eqD z x) else none
  | .tup ds => if eqN 60 x && ds.all (eqN 59) then some (ds.any fun z => eqD z x) else none
  | .str s => match x with
    | .str c => match c.cps.toList with
      | [n] => some (decide (n ∈ s.cps.toList))
      | _ => none
    | _ => none
  | _ => none
def isNonD : D → Bool
  | .non => true
  | _ => false
def isD : D → D → Option Bool
  | .bl a, .bl b => some (a == b)
  | x, .non => some (isNonD x)
  | _, _ => none
def cmpop : Cop → D → D → Option Bool
  | .eq, x, y => if eqN 60 x && eqN 60 y then some (eqD x y) else none
  | .ne, x, y => if eqN 60 x && eqN 60 y then some (!eqD x y) else none
  | .lt, .int i, .int j => some (decide (i < j))
  | .le, .int i, .int j => some (decide (i ≤ j))
  | .gt, .int i, .int j => some (decide (j < i))
  | .ge, .int i, .int j => some (decide (j ≤ i))
  | .lt, .str x, .str y => some (strLt x y)
  | .is, x, y => isD x y
  | .isnot, x, y => (isD x y).map (!·)
  | .isin, x, y => isinD x y
  | .notin, x, y => (isinD x y).map (!·)
  | _, _, _ => none
def asBs : List D → Option (List Bool)
  | [] => some []
  | d :: r => match d, asBs r with
    | .bl b, some bs => some (b :: bs)
    | _, _ => none
def asIs : List D → Option (List Int)
  | [] => some []
  | d :: r => match d, asIs r with
    | .int b, some bs => some (b :: bs)
    | _, _ => none
def asSs : List D → Option (List Str)
  | [] => some []
  | d :: r => match d, asSs r with
    | .str b, some bs => some (b :: bs)
    | _, _ => none
def lenD : D → Option Int
  | .tup ds => some ds.length
  | .lst ds => some ds.length
  | .str s => if s.length ≤ 1000000 then some s.length else none
  | .scr ns => some ns.length
  | _ => none
def sortI (ns : List Int) : List Int := ns.mergeSort fun a b => decide (a ≤ b)
def sortS (ss : List Str) : List Str := ss.mergeSort fun a b => !strLt b a
def sortD : D → Option (List D)
  | .lst ds => match asIs ds with
    | some ns => some ((sortI ns).map .int)
    | none => (asSs ds).bind fun ss => if ss.length < 64 then some ((sortS ss).map .str) else none
  | _ => none
def listD : D → Option D
  | .lst ds => some (.lst ds)
  | .tup ds => some (.lst ds)
  | .str s => if s.cps.size ≤ 1000000 then some (.lst (s.cps.toList.map fun c => .str ⟨#[c]⟩)) else none
  | _ => none
def b1op : B1 → D → Option D
  | .len, d => (lenD d).map .int
  | .abs, .int i => some (.int i.natAbs)
  | .int, .int i => some (.int i)
  | .all, d => match d with
    | .lst ds => (asBs ds).map fun bs => .bl (bs.all id)
    | _ => none
  | .any, d => match d with
    | .lst ds => (asBs ds).map fun bs => .bl (bs.any id)
    | _ => none
  | .sum, d => match d with
    | .lst ds => (asIs ds).map fun ns => .int ns.sum
    | _ => none
  | .tuple, d => match d with
    | .lst ds => some (.tup ds)
    | .tup ds => some (.tup ds)
    | _ => none
  | .list, d => listD d
  | .sorted, d => (sortD d).map .lst
  | _, _ => none
def ixop : D → D → Option D
  | .tup ds, .int i => atI ds i
  | .lst ds, .int i => atI ds i
  | .str s, .int i => if s.length ≤ 1000000 then (atI s.cps.toList i).map fun c => .str ⟨#[c]⟩ else none
  | _, _ => none
def gcdI : D → D → Option D
  | .int i, .int j => some (.int (Int.gcd i j))
  | _, _ => none
def minI : D → D → Option D
  | .int i, .int j => some (.int (if j < i then j else i))
  | _, _ => none
def maxI : D → D → Option D
  | .int i, .int j => some (.int (if j > i then j else i))
  | _, _ => none
def indexD (x y : D) : Option D := (seqD x).bind fun ds => if eqN 60 y && ds.all (eqN 59) then (ds.findIdx? fun z => eqD z y).map fun n => .int n else none
def asS : D → Option Str
  | .str s => some s
  | _ => none
def joinD (s : Str) (y : D) : Option D := (seqD y).bind fun ds => (asSs ds).bind fun ss => if (ss.map (·.length)).sum + ss.length * s.length ≤ 1000000 then some (.str (Txt.join s ss)) else none
def upperD : D → Option D
  | .str s => if s.length ≤ 1000000 then some (.str (Txt.upper s)) else none
  | _ => none
def cutL {α : Type} (xs : List α) (lo hi : Option Int) : List α :=
  (xs.drop (HT.sIx xs.length 0 lo)).take (HT.sIx xs.length xs.length hi - HT.sIx xs.length 0 lo)
def slop (lo hi : Option Int) : D → Option D
  | .tup ds => some (.tup (cutL ds lo hi))
  | .lst ds => some (.lst (cutL ds lo hi))
  | .str s => if s.length ≤ 1000000 then some (.str (cutS s lo hi)) else none
  | _ => none
/-- a part of a slice -/
def partD : List D → Option (Option Int)
  | [] => some none
  | [.int i] => some (some i)
  | _ => none
def tyD : D → Ty → Bool
  | .int _, .int => true
  | .bl _, .int => true
  | .bl _, .bool => true
  | .str _, .str => true
  | .tup _, .tuple => true
  | .lst _, .list => true
  | .dK _, .dict => true
  | .dT _, .dict => true
  | _, _ => false

/-! ### the evaluator -/
structure G where
  call : Str → List D → DS → Res D
  lam : E → Env → DS → Res D
  glob : Str → Option D
  /-- the bases of an exception class, itself ahead -/
  sub : Str → List Str
  fields : Str → List Str
/-- the items at these places -/
def permL {α : Type} (p : List Nat) (l : List α) : List α := p.filterMap fun i => l[i]?
def mapR (f : D → DS → Res (Option D)) : List D → DS → Res (List D)
  | [], st => .ok [] st
  | d :: ds, st => (f d st).bind fun r st => (mapR f ds st).bind fun rs st => .ok (match r with | some x => x :: rs | none => rs) st
def flatR (f : D → DS → Res (List D)) : List D → DS → Res (List D)
  | [], st => .ok [] st
  | d :: ds, st => (f d st).bind fun r st => (flatR f ds st).bind fun rs st => .ok (r ++ rs) st
def bindL : List Nat → List D → Env → Option Env
  | [], [], env => some env
  | i :: is, d :: ds, env => bindL is ds (st1 env i (some d))
  | _, _, _ => none
def bindT : Tg → D → Env → Option Env
  | .nm i, d, env => some (st1 env i (some d))
  | .tp is, .tup ds, env => bindL is ds env
  | _, _, _ => none
def zip2 : List D → List D → List D
  | a :: r, b :: s => .tup [a, b] :: zip2 r s
  | _, _ => []
def enumL : Nat → List D → List D
  | _, [] => []
  | i, d :: r => .tup [.int i, d] :: enumL (i + 1) r
/-- zip of two lists, of two tuples -/
def zipD : D → D → Option (List D)
  | .lst xs, .lst ys => some (zip2 xs ys)
  | .tup xs, .tup ys => some (zip2 xs ys)
  | _, _ => none
def enumD : D → Option (List D)
  | .lst xs => some (enumL 0 xs)
  | _ => none
/-- the built-in type of a value -/
def tyN : D → Option String
  | .non => some "NoneType" | .bl _ => some "bool" | .int _ => some "int" | .str _ => some "str"
  | .tup _ => some "tuple" | .lst _ => some "list" | .dK _ => some "dict" | .dT _ => some "dict"
  | _ => none
def tyS : Ty → Option String
  | .int => some "int" | .bool => some "bool" | .str => some "str" | .tuple => some "tuple" | .list => some "list" | .dict => some "dict"
  | .cls _ => none
def isinB (d : D) (ts : List Ty) : Option Bool := (tyN d).map fun _ => ts.any (tyD d)
def isinC (g : G) (d : D) (x : Str) : Option Bool := match d with
  | .exc c _ => some ((g.sub c).contains x)
  | _ => none
def isinT (g : G) (d : D) : List Ty → Option Bool
  | [.cls x] => isinC g d x
  | ts => if ts.all fun t => (tyS t).isSome then isinB d ts else none
def rangeL (lo : Int) : Nat → List D
  | 0 => []
  | n + 1 => .int lo :: rangeL (lo + 1) n
def rangeD : List D → Option (List D)
  | [.int j] => if -1000000 ≤ j ∧ j ≤ 1000000 then some (rangeL 0 j.toNat) else none
  | [.int i, .int j] => if -100000 ≤ i ∧ i ≤ 100000 ∧ -100000 ≤ j ∧ j ≤ 100000 then some (rangeL i (j - i).toNat) else none
  | _ => none
def fldD (g : G) (d : D) (f : Str) : Option D := match d with
  | .exc c fs => ((g.fields c).zip fs).lookup f
  | _ => none
def callV (g : G) : D → List D → DS → Res D
  | .fn f, ds, st => g.call f ds st
  | _, _, _ => .stuck

/-- the captured slots -/
def keepE (caps : List Nat) : Nat → Env → Env
  | _, [] => []
  | i, d :: r => (if caps.contains i then d else none) :: keepE caps (i + 1) r
/-- the error that is caught, or None -/
def catchR : Res D → Res D
  | .ok _ st => .ok .non st
  | .raise c fs st => .ok (.exc c fs) st
  | .stuck => .stuck
def drF (f : Nat) (st : DS) : Option D := match f with
  | 0 => some (.int st.rest)
  | 1 => some (.int st.turn)
  | 2 => some (.lst (st.cells.map .int))
  | _ => none
def isDrw : Option D → Bool
  | some .drw => true
  | _ => false
def popG (st : DS) : Res D := match st.great with
  | g :: gs => .ok (.int g) { st with great := gs }
  | [] => .stuck
mutual
def evE (g : G) : E → Env → DS → Res D
  | .bad, _, _ => .stuck
  | .non, _, st => .ok .non st
  | .bl b, _, st => .ok (.bl b) st
  | .int i, _, st => .ok (.int i) st
  | .str x, _, st => .ok (.str x) st
  | .var i, env, st => ofO (lk env i) st
  | .bor i, env, st => ofO (lk env i) st
  | .glob x, _, st => ofO (g.glob x) st
  | .tup es, env, st => (evEs g es env st).bind fun ds st => .ok (.tup ds) st
  | .lst es, env, st => (evEs g es env st).bind fun ds st => .ok (.lst ds) st
  | .bin o a b, env, st => (evE g a env st).bind fun x st => (evE g b env st).bind fun y st => ofO (binop o x y) st
  | .neg a, env, st => (evE g a env st).bind fun x st => ofO ((asI x).map fun i => .int (-i)) st
  | .not a, env, st => (evE g a env st).bind fun x st => ofO ((asB x).map fun b => .bl (!b)) st
  | .cmp o a b, env, st => (evE g a env st).bind fun x st => (evE g b env st).bind fun y st => ofO ((cmpop o x y).map .bl) st
  | .cmp2 o p a b c, env, st => (evE g a env st).bind fun x st => (evE g b env st).bind fun y st => (ofO (cmpop o x y) st).bind fun k st =>
      if k then (evE g c env st).bind fun z st => ofO ((cmpop p y z).map .bl) st else .ok (.bl false) st
  | .and a b, env, st => (evE g a env st).bind fun x st => (ofO (asB x) st).bind fun k st => if k then evE g b env st else .ok (.bl false) st
  | .or a b, env, st => (evE g a env st).bind fun x st => (ofO (asB x) st).bind fun k st => if k then .ok (.bl true) st else evE g b env st
  | .ite c a b, env, st => (evE g c env st).bind fun x st => (ofO (asB x) st).bind fun k st => if k then evE g a env st else evE g b env st
  | .ix a i, env, st => (evE g a env st).bind fun x st => (evE g i env st).bind fun y st => ofO (ixop x y) st
  | .slc a lo hi, env, st => (evE g a env st).bind fun x st => (evEs g lo env st).bind fun l st => (ofO (partD l) st).bind fun l st =>
      (evEs g hi env st).bind fun h st => (ofO (partD h) st).bind fun h st => ofO (slop l h x) st
  | .fld a f, env, st => (evE g a env st).bind fun x st => ofO (fldD g x f) st
  | .call f es, env, st => (evEs g es env st).bind fun ds st => g.call f ds st
  | .callk f es kes perm, env, st => (evEs g es env st).bind fun ds st => (evEs g kes env st).bind fun kds st => g.call f (permL perm (ds ++ kds)) st
  | .callv i es, env, st => (ofO (lk env i) st).bind fun f st => (evEs g es env st).bind fun ds st => callV g f ds st
  | .b1 b a, env, st => (evE g a env st).bind fun x st => ofO (b1op b x) st
  | .gcd a b, env, st => (evE g a env st).bind fun x st => (evE g b env st).bind fun y st => ofO (gcdI x y) st
  | .min2 a b, env, st => (evE g a env st).bind fun x st => (evE g b env st).bind fun y st => ofO (minI x y) st
  | .max2 a b, env, st => (evE g a env st).bind fun x st => (evE g b env st).bind fun y st => ofO (maxI x y) st
  | .dnew, _, st => .ok (.dK []) st
  | .isin a ts, env, st => (evE g a env st).bind fun x st => ofO ((isinT g x ts).map .bl) st
  | .listI i, env, st => (evI g i env st).bind fun ds st => .ok (.lst ds) st
  | .index a b, env, st => (evE g a env st).bind fun x st => (evE g b env st).bind fun y st =>
      ofO (indexD x y) st
  | .join a b, env, st => (evE g a env st).bind fun x st => (ofO (asS x) st).bind fun s st => (evE g b env st).bind fun y st => ofO (joinD s y) st
  | .upper a, env, st => (evE g a env st).bind fun x st => ofO (upperD x) st
  | .get _ _ _, _, _ => .stuck
  | .comp own tg i cs elt, env, st => (evI g i env st).bind fun ds st =>
      (mapR (fun d st => Res.noRaise ((ofO (bindT tg d (wipeE env own)) st).bind fun env st => (evCs g cs env st).bind fun k st => if k then (evE g elt env st).bind fun x st => .ok (some x) st else .ok none st)) ds st).bind fun rs st => .ok (.lst rs) st
  | .comp2 own tg i cs tg2 i2 cs2 elt, env, st => (evI g i env st).bind fun ds st =>
      (flatR (fun d st => Res.noRaise ((ofO (bindT tg d (wipeE env own)) st).bind fun env st => (evCs g cs env st).bind fun k st => if k then
        (evI g i2 env st).bind fun ds2 st => mapR (fun d2 st => (ofO (bindT tg2 d2 env) st).bind fun env st => (evCs g cs2 env st).bind fun k st => if k then (evE g elt env st).bind fun x st => .ok (some x) st else .ok none st) ds2 st
        else .ok [] st)) ds st).bind fun rs st => .ok (.lst rs) st
  | .lam b caps, _, st => .ok (.clo b caps) st
  | .cgv i vs, env, st => match lk env i with
    | some (.clo t caps) => if caps.all vs.contains then catchR (g.lam t (keepE caps 0 env) st) else .stuck
    | _ => .stuck
  | .dr i f, env, st => if isDrw (lk env i) then ofO (drF f st) st else .stuck
  | .gne i, env, st => if isDrw (lk env i) then .ok (.bl (!st.great.isEmpty)) st else .stuck
  | .popg i, env, st => if isDrw (lk env i) then popG st else .stuck
  | .caught caps e, env, st => catchR (evE g e (keepE caps 0 env) st)
def evEs (g : G) : Es → Env → DS → Res (List D)
  | .nil, _, st => .ok [] st
  | .cons e es, env, st => (evE g e env st).bind fun d st => (evEs g es env st).bind fun ds st => .ok (d :: ds) st
/-- the tests of a comprehension: all -/
def evCs (g : G) : Es → Env → DS → Res Bool
  | .nil, _, st => .ok true st
  | .cons e es, env, st => (evE g e env st).bind fun d st => (ofO (asB d) st).bind fun k st => if k then evCs g es env st else .ok false st
def evI (g : G) : I → Env → DS → Res (List D)
  | .e e, env, st => (evE g e env st).bind fun d st => ofO (itemsD d) st
  | .range1 a, env, st => (evE g a env st).bind fun d st => ofO (rangeD [d]) st
  | .range2 a b, env, st => (evE g a env st).bind fun d st => (evE g b env st).bind fun e st => ofO (rangeD [d, e]) st
  | .zip a b, env, st => (evE g a env st).bind fun d st => (evE g b env st).bind fun e st => ofO (zipD d e) st
  | .enum e, env, st => (evE g e env st).bind fun d st => ofO (enumD d) st
end
end Ev
/-! Ev2: what represents the data; the state of a body; the judgement of an expression. -/
namespace Ev
open PySem PySem.Spec PyProof.Rows L2

/-! ### how the draws' state lies -/
def dsD (L Ca : Addr) (st : DS) : List (Key × V) := [(.inr "great", .ref L), (.inr "cells", .ref Ca), (.inr "rest", .int st.rest), (.inr "turn", .int st.turn)]
/-! ### what is fixed through a law -/
structure Wd where
  K : PySem.W.Frag
  fnA : Str → Addr → Prop
  drA : Addr → Prop
  mt : Addr → Prop
  inv : Hp → DS → Prop
  stable : ∀ H H' st, inv H st → (∀ a, mt a → H' a = H a) → (∀ a c q, H a = some (LamX.CodeO c q) → H' a = some (LamX.CodeO c q)) → inv H' st
  there : ∀ H st a, inv H st → mt a → H a ≠ none
  Ld : Addr
  Cd : Addr
  cells : List Int
  dr : ∀ H st a, inv H st → drA a → H a = some (.dK (dsD Ld Cd st)) ∧ H Ld = some (.lst (st.great.map V.int)) ∧ mt a ∧ mt Ld ∧ st.cells = cells
  drPut : ∀ H st st' a, inv H st → drA a → st'.great = st.great → st'.cells = st.cells → inv (L2.upd H a (.dK (dsD Ld Cd st'))) st'
  drPop : ∀ H st a g gs, inv H st → drA a → st.great = g :: gs → inv (L2.upd H Ld (.lst (gs.map V.int))) { st with great := gs }
  exA : Str → Value → Prop
  exF : Str → Str → Prop
  /-- the lambdas of the frame that is run, as values -/
  cloA : Obj → E → List Nat → Prop
  /-- the tables of code objects: where lambdas are made -/
  tabs : List (Addr × Str)
  mtT : ∀ p ∈ tabs, mt p.1
  invT : ∀ H st, inv H st → LamX.Tabs tabs H
  invE : ∀ H st P q ps c, inv H st → (P, q) ∈ tabs → H c = none → LamX.Tabs tabs (L2.upd (L2.upd H P (.tbl ps)) c (LamX.CodeO c q)) → inv (L2.upd (L2.upd H P (.tbl ps)) c (LamX.CodeO c q)) st
/-- an error of the class cls, its dict at dx -/
def ExcT (cls : Value) (dx : Option Addr) (a : Addr) : HO := .ext fun h => ∃ (oe : Obj) (vs : Array Value), h.get? a = some oe ∧ L2.Zc cls dx oe ∧ oe.data = .fields vs

mutual
/-- v represents d, by what F knows for ever -/
inductive Rep (W : Wd) (F : Hp) : V → D → Prop
  | non : Rep W F .non .non
  | bl (b : Bool) : Rep W F (.bl b) (.bl b)
  | int (i : Int) : Rep W F (.int i) (.int i)
  | str (x : Str) : Rep W F (.str x) (.str x)
  | tup {a : Addr} {vs : List V} {ds : List D} : SqT W.K F a vs → Reps W F vs ds → Rep W F (.ref a) (.tup ds)
  | lst {a : Addr} {vs : List V} {ds : List D} : F a = some (.lst vs) → Reps W F vs ds → Rep W F (.ref a) (.lst ds)
  | scr {a : Addr} {ns : List Int} : SqL W.K F a (ns.map V.int) → Rep W F (.ref a) (.scr ns)
  | dK {a : Addr} {ws : List (Key × V)} {kvs : List (Key × D)} : F a = some (.dK ws) → ws.map (·.1) = kvs.map (·.1) → Reps W F (ws.map (·.2)) (kvs.map (·.2)) → Rep W F (.ref a) (.dK kvs)
  | dT {a : Addr} {ws : List (List Key × V)} {kvs : List (List Key × D)} : F a = some (.dT ws) → ws.map (·.1) = kvs.map (·.1) → Reps W F (ws.map (·.2)) (kvs.map (·.2)) → Rep W F (.ref a) (.dT kvs)
  | fn {f : Str} {a : Addr} : W.fnA f a → Rep W F (.ref a) (.fn f)
  | drw {a : Addr} : W.drA a → F W.Cd = some (.lst (W.cells.map V.int)) → Rep W F (.ref a) .drw
  | clo {a : Addr} {o : Obj} {t : E} {caps : List Nat} : F a = some (.frz o (.ext fun _ => True)) → W.cloA o t caps → Rep W F (.ref a) (.clo t caps)
  | exc0 {c : Str} {a : Addr} {cls : Value} : W.exA c cls → F a = some (ExcT cls none a) → Rep W F (.ref a) (.exc c [])
  | exc1 {c f : Str} {a d : Addr} {cls : Value} {v : V} {x : D} : W.exA c cls → F a = some (ExcT cls (some d) a) → F d = some (.xd [(f, v)]) → W.exF c f → Rep W F v x → Rep W F (.ref a) (.exc c [x])
inductive Reps (W : Wd) (F : Hp) : List V → List D → Prop
  | nil : Reps W F [] []
  | cons {v : V} {vs : List V} {d : D} {ds : List D} : Rep W F v d → Reps W F vs ds → Reps W F (v :: vs) (d :: ds)
end

/-- what F knows, F' knows -/
def Le (F F' : Hp) : Prop := ∀ a o, F a = some o → F' a = some o
theorem Le.refl (F : Hp) : Le F F := fun _ _ h => h
theorem Le.trans {F F1 F2 : Hp} (a : Le F F1) (b : Le F1 F2) : Le F F2 := fun c o h => b c o (a c o h)
theorem Le.rd {F F' : Hp} (l : Le F F') {a : Addr} {u : HO} (h : Rd F a u) : Rd F' a u := h.elim (fun z => .inl (l _ _ z)) fun ⟨o, z⟩ => .inr ⟨o, l _ _ z⟩
theorem Le.sqT {K : PySem.W.Frag} {F F' : Hp} (l : Le F F') {a : Addr} {vs : List V} (h : SqT K F a vs) : SqT K F' a vs := h.elim (fun z => .inl (l.rd z)) .inr
theorem Le.sqL {K : PySem.W.Frag} {F F' : Hp} (l : Le F F') {a : Addr} {vs : List V} (h : SqL K F a vs) : SqL K F' a vs := h.elim (fun z => .inl (l.rd z)) .inr

def dictO : HO → Bool
  | .dK _ => true
  | .dT _ => true
  | _ => false
/-- it stands there; a dict may be locked (walked) -/
def Kn (H : Hp) (a : Addr) (o : HO) : Prop := H a = some o ∨ (dictO o = true ∧ ∃ ob, H a = some (.frz ob o))
theorem Kn.ne {H : Hp} {a : Addr} {o : HO} (k : Kn H a o) : H a ≠ none := by
  rcases k with k | ⟨_, ob, k⟩ <;> rw [k] <;> simp
theorem Kn.keep {H H' : Hp} {a : Addr} {o : HO} (k : Kn H a o) (h : ∀ u, H a = some u → H' a = some u) : Kn H' a o := k.imp (h _) fun ⟨d, ob, k⟩ => ⟨d, ob, h _ k⟩
theorem Kn.rd {H : Hp} {a : Addr} {o : HO} (k : Kn H a o) : Rd H a o := k.imp id fun ⟨_, ob, k⟩ => ⟨ob, k⟩
theorem Kn.plain {H : Hp} {a : Addr} {o : HO} (k : Kn H a o) (d : dictO o = false) : H a = some o := k.elim id fun ⟨e, _⟩ => by rw [d] at e; cases e
def LeK (F H : Hp) : Prop := ∀ a o, F a = some o → Kn H a o
theorem LeK.sqT {K : PySem.W.Frag} {F F' : Hp} (l : LeK F F') {a : Addr} {vs : List V} (h : SqT K F a vs) : SqT K F' a vs :=
  h.elim (fun z => .inl (z.elim (fun z => .inl ((l _ _ z).plain rfl)) fun ⟨o, z⟩ => .inr ⟨o, (l _ _ z).plain rfl⟩)) .inr
theorem LeK.sqL {K : PySem.W.Frag} {F F' : Hp} (l : LeK F F') {a : Addr} {vs : List V} (h : SqL K F a vs) : SqL K F' a vs :=
  h.elim (fun z => .inl (z.elim (fun z => .inl ((l _ _ z).plain rfl)) fun ⟨o, z⟩ => .inr ⟨o, (l _ _ z).plain rfl⟩)) .inr

mutual
theorem Rep.mono {W : Wd} {F F' : Hp} (l : Le F F') : ∀ {v : V} {d : D}, Rep W F v d → Rep W F' v d
  | _, _, .non => .non
  | _, _, .bl b => .bl b
  | _, _, .int i => .int i
  | _, _, .str x => .str x
  | _, _, .tup h r => .tup (l.sqT h) (Reps.mono l r)
  | _, _, .lst h r => .lst (l _ _ h) (Reps.mono l r)
  | _, _, .scr h => .scr (l.sqL h)
  | _, _, .dK h e r => .dK (l _ _ h) e (Reps.mono l r)
  | _, _, .dT h e r => .dT (l _ _ h) e (Reps.mono l r)
  | _, _, .fn h => .fn h
  | _, _, .drw h k => .drw h (l _ _ k)
  | _, _, .clo h r => .clo (l _ _ h) r
  | _, _, .exc0 h r => .exc0 h (l _ _ r)
  | _, _, .exc1 h r s t u => .exc1 h (l _ _ r) (l _ _ s) t (Rep.mono l u)
theorem Reps.mono {W : Wd} {F F' : Hp} (l : Le F F') : ∀ {vs : List V} {ds : List D}, Reps W F vs ds → Reps W F' vs ds
  | _, _, .nil => .nil
  | _, _, .cons h r => .cons (Rep.mono l h) (Reps.mono l r)
end
section
variable {W : Wd} {F : Hp}
theorem Reps.length : ∀ {vs : List V} {ds : List D}, Reps W F vs ds → vs.length = ds.length
  | _, _, .nil => rfl
  | _, _, .cons _ r => congrArg (· + 1) r.length
theorem Reps.get : ∀ {vs : List V} {ds : List D} {i : Nat} {d : D}, Reps W F vs ds → ds[i]? = some d → ∃ v, vs[i]? = some v ∧ Rep W F v d
  | _, _, _, _, .nil, e => by simp at e
  | _, _, 0, _, .cons r _, e => by simp at e; subst e; exact ⟨_, rfl, r⟩
  | _, _, i + 1, d, .cons _ t, e => by
    obtain ⟨u, h1, h2⟩ := Reps.get (i := i) (d := d) t (by simpa using e)
    exact ⟨u, by simpa using h1, h2⟩
theorem Reps.getV : ∀ {vs : List V} {ds : List D} {i : Nat} {v : V}, Reps W F vs ds → vs[i]? = some v → ∃ d, ds[i]? = some d ∧ Rep W F v d
  | _, _, _, _, .nil, e => by simp at e
  | _, _, 0, _, .cons r _, e => by simp at e; subst e; exact ⟨_, rfl, r⟩
  | _, _, i + 1, d, .cons _ t, e => by
    obtain ⟨u, h1, h2⟩ := Reps.getV (i := i) (v := d) t (by simpa using e)
    exact ⟨u, by simpa using h1, h2⟩
theorem Reps.append : ∀ {vs ws : List V} {ds es : List D}, Reps W F vs ds → Reps W F ws es → Reps W F (vs ++ ws) (ds ++ es)
  | _, _, _, _, .nil, s => s
  | _, _, _, _, .cons r t, s => .cons r (Reps.append t s)
theorem Reps.take : ∀ {vs : List V} {ds : List D} (n : Nat), Reps W F vs ds → Reps W F (vs.take n) (ds.take n)
  | _, _, 0, _ => .nil
  | _, _, _ + 1, .nil => .nil
  | _, _, n + 1, .cons r t => .cons r (Reps.take n t)
theorem Reps.drop : ∀ {vs : List V} {ds : List D} (n : Nat), Reps W F vs ds → Reps W F (vs.drop n) (ds.drop n)
  | _, _, 0, r => r
  | _, _, _ + 1, .nil => .nil
  | _, _, n + 1, .cons r t => Reps.drop n t
theorem Reps.set {v : V} {d : D} (r : Rep W F v d) : ∀ {vs : List V} {ds : List D} (i : Nat), Reps W F vs ds → Reps W F (vs.set i v) (ds.set i d)
  | _, _, _, .nil => .nil
  | _, _, 0, .cons _ t => .cons r t
  | _, _, i + 1, .cons q t => .cons q (Reps.set r i t)
theorem Rep.int_inv {v : V} {i : Int} (h : Rep W F v (.int i)) : v = .int i := by cases h; rfl
theorem Rep.bl_inv {v : V} {b : Bool} (h : Rep W F v (.bl b)) : v = .bl b := by cases h; rfl
theorem Rep.str_inv {v : V} {x : Str} (h : Rep W F v (.str x)) : v = .str x := by cases h; rfl
theorem Rep.non_inv {v : V} (h : Rep W F v .non) : v = .non := by cases h; rfl
theorem Rep.tup_inv {v : V} {ds : List D} (h : Rep W F v (.tup ds)) : ∃ a vs, v = .ref a ∧ SqT W.K F a vs ∧ Reps W F vs ds := by cases h with | tup h r => exact ⟨_, _, rfl, h, r⟩
end

/-- a lambda's code object is told where the lambda is known -/
def TbOk (H F : Hp) : Prop := ∀ (a : Addr) (o : Obj) (φ : Heap → Prop) (fd : FuncData) (c' : Addr), F a = some (.frz o (.ext φ)) → o.data = .func fd → fd.code = .ref c' → H c' = some (LamX.CodeO c' fd.qualname)
theorem TbOk.upd {H F : Hp} {p : Addr} {u : HO} (t : TbOk H F) (nc : ∀ c q, H p ≠ some (LamX.CodeO c q)) : TbOk (L2.upd H p u) F := fun a o φ fd c' e1 e2 e3 => by
  have z := t a o φ fd c' e1 e2 e3
  rw [L2.upd_ne (fun e => nc c' fd.qualname (by rw [← e]; exact z))]; exact z
theorem TbOk.know {H F : Hp} {p : Addr} {u : HO} (t : TbOk H F) (nf : ∀ o φ, u ≠ .frz o (.ext φ)) : TbOk H (L2.upd F p u) := fun a o φ fd c' e1 e2 e3 => by
  by_cases e : a = p
  · rw [e, L2.upd_same] at e1; cases e1; exact absurd rfl (nf o φ)
  · rw [L2.upd_ne e] at e1; exact t a o φ fd c' e1 e2 e3
/-! ### the state of a body -/
/-- the entry: the heap, what was known for ever, the wish about exceptions -/
structure Gh where
  H0 : Hp
  F0 : Hp
  E0 : XK
def isM : D → Bool
  | .lst _ => true
  | .dK _ => true
  | .dT _ => true
  | _ => false
/-- the only holder of a list or a dict -/
def Own (W : Wd) (H0 H F : Hp) (v : V) (d : D) : Prop :=
  match d with
  | .lst ds => ∃ p vs, v = .ref p ∧ H p = some (.lst vs) ∧ F p = none ∧ H0 p = none ∧ Reps W F vs ds
  | .dK kvs => ∃ p ws, v = .ref p ∧ H p = some (.dK ws) ∧ F p = none ∧ H0 p = none ∧ ws.map (·.1) = kvs.map (·.1) ∧ Reps W F (ws.map (·.2)) (kvs.map (·.2))
  | .dT kvs => ∃ p ws, v = .ref p ∧ H p = some (.dT ws) ∧ F p = none ∧ H0 p = none ∧ ws.map (·.1) = kvs.map (·.1) ∧ Reps W F (ws.map (·.2)) (kvs.map (·.2))
  | d => Rep W F v d

structure GR (W : Wd) (g : Gh) (Ω : Nat → Bool) (σ : L2.St) (H : Hp) (env : Env) (F : Hp) (st : DS) : Prop where
  keep : ∀ a o, g.H0 a = some o → ¬ W.mt a → H a = some o
  sub : LeK F H
  nmut : ∀ a, W.mt a → F a = none
  old : Le g.F0 F
  new : ∀ a o, F a = some o → g.F0 a = some o ∨ g.H0 a = none
  inv : W.inv H st
  m0 : ∀ a, W.mt a → g.H0 a ≠ none
  len : env.length = σ.length
  slot : ∀ i d, lk env i = some d → ∃ v, σ[i]? = some (some v) ∧ (if Ω i then Own W g.H0 H F v d else Rep W F v d)
  sep : ∀ i j v di dj, Ω i = true → Ω j = true → lk env i = some di → lk env j = some dj → isM di = true → isM dj = true → σ[i]? = some (some v) → σ[j]? = some (some v) → i = j
  tb : TbOk H F

/-- from (H, F) to (H', F'): F grew by what was not there -/
structure Fx (H F H' F' : Hp) : Prop where
  le : Le F F'
  new : ∀ a o, F' a = some o → F a = some o ∨ H a = none
  there : ∀ a, H a ≠ none → H' a ≠ none
theorem Fx.refl (H F : Hp) : Fx H F H F := ⟨Le.refl F, fun _ _ h => .inl h, fun _ h => h⟩
theorem Fx.trans {H F H1 F1 H2 F2 : Hp} (a : Fx H F H1 F1) (b : Fx H1 F1 H2 F2) : Fx H F H2 F2 :=
  ⟨a.le.trans b.le, fun c o h => (b.new c o h).elim (fun z => a.new c o z) fun z => .inr (by
    cases q : H c with
    | none => rfl
    | some u => exact absurd z (a.there c (by rw [q]; simp))), fun c h => b.there c (a.there c h)⟩

/-- how an exception lies -/
def RaiseP (W : Wd) (g : Gh) (c : Str) (fs : List D) (st : DS) (cls : Value) (dx : Option Addr) (H : Hp) : Prop :=
  (∀ a ps, H a = some (.tbl ps) → True) ∧ W.exA c cls ∧ (∀ a o, g.H0 a = some o → ¬ W.mt a → H a = some o) ∧ W.inv H st ∧ ∃ F, (LeK F H ∧ TbOk H F) ∧ (∀ a, W.mt a → F a = none) ∧ Le g.F0 F ∧ (∀ a o, F a = some o → g.F0 a = some o ∨ g.H0 a = none) ∧
    match fs, dx with
    | [], none => True
    | [x], some a => ∃ v f, H a = some (.xd [(f, v)]) ∧ g.H0 a = none ∧ W.exF c f ∧ Rep W F v x
    | _, _ => False
/-- a raised error is let out -/
def Lets (W : Wd) (g : Gh) (c : Str) (fs : List D) (st : DS) : Prop := ∀ cls dx H, RaiseP W g c fs st cls dx H → g.E0 cls dx H

/-- how the value of an expression may lie -/
inductive Md | rep | bor | own
def Lies (W : Wd) (g : Gh) (Ω : Nat → Bool) (σ : L2.St) (env : Env) (H0 H F : Hp) (v : V) (d : D) : Md → Prop
  | .rep => Rep W F v d
  | .bor => Rep W F v d ∨ ∃ i, Ω i = true ∧ σ[i]? = some (some v) ∧ lk env i = some d
  | .own => Own W H0 H F v d

/-- what is wanted of an answer -/
def Wn {α : Type} (P : α → DS → Prop) (L : Str → List D → DS → Prop) : Res α → Prop
  | .ok a st => P a st
  | .raise c fs st => L c fs st
  | .stuck => False
theorem Wn.mono {α : Type} {P P' : α → DS → Prop} {L : Str → List D → DS → Prop} {r : Res α} (w : Wn P L r) (h : ∀ a st, P a st → P' a st) : Wn P' L r := by
  cases r with
  | ok a st => exact h a st w
  | raise c fs st => exact w
  | stuck => exact w
theorem Wn.bind {α β : Type} {P : β → DS → Prop} {L : Str → List D → DS → Prop} {r : Res α} {k : α → DS → Res β} (w : Wn P L (r.bind k)) : Wn (fun a st => Wn P L (k a st)) L r := by
  cases r with
  | ok a st => exact w
  | raise c fs st => exact w
  | stuck => exact w
theorem Wn.unbind {α β : Type} {P : β → DS → Prop} {L : Str → List D → DS → Prop} {r : Res α} {k : α → DS → Res β} (w : Wn (fun a st => Wn P L (k a st)) L r) : Wn P L (r.bind k) := by
  cases r with
  | ok a st => exact w
  | raise c fs st => exact w
  | stuck => exact w
theorem Wn.ofO {α : Type} {P : α → DS → Prop} {L : Str → List D → DS → Prop} {o : Option α} {st : DS} (w : Wn P L (ofO o st)) : ∃ a, o = some a ∧ P a st := by
  cases o with
  | some a => exact ⟨a, rfl, w⟩
  | none => exact w.elim

abbrev Fe := Env → DS → Res D
def PstE (W : Wd) (g : Gh) (Ω : Nat → Bool) (m : Md) (σ : L2.St) (H F : Hp) (env : Env) (Q : VK) (d : D) (st' : DS) : Prop :=
  ∀ v H' F', GR W g Ω σ H' env F' st' → Fx H F H' F' → Lies W g Ω σ env H H' F' v d m → Q v H'
def tE (W : Wd) (g : Gh) (Ω : Nat → Bool) (m : Md) (f : Fe) : TE := fun σ H Q => ∃ env F st, GR W g Ω σ H env F st ∧ Wn (PstE W g Ω m σ H F env Q) (Lets W g) (f env st)
/-- a test -/
def PstT (W : Wd) (g : Gh) (Ω : Nat → Bool) (σ : L2.St) (H F : Hp) (env : Env) (Q : Bool → Hp → Prop) (b : Bool) (st' : DS) : Prop :=
  ∀ H' F', GR W g Ω σ H' env F' st' → Fx H F H' F' → Q b H'
def tT (W : Wd) (g : Gh) (Ω : Nat → Bool) (f : Env → DS → Res Bool) : TT := fun σ H Q => ∃ env F st, GR W g Ω σ H env F st ∧ Wn (PstT W g Ω σ H F env Q) (Lets W g) (f env st)
abbrev Fs := Env → DS → Res (List D)
def PstA (W : Wd) (g : Gh) (Ω : Nat → Bool) (σ : L2.St) (H F : Hp) (env : Env) (Q : List V → Hp → Prop) (ds : List D) (st' : DS) : Prop :=
  ∀ vs H' F', GR W g Ω σ H' env F' st' → Fx H F H' F' → Reps W F' vs ds → Q vs H'
def tA (W : Wd) (g : Gh) (Ω : Nat → Bool) (f : Fs) : TA := fun σ H Q => ∃ env F st, GR W g Ω σ H env F st ∧ Wn (PstA W g Ω σ H F env Q) (Lets W g) (f env st)

theorem PE.imp {X : Cx} {e : Expr} {t t' : TE} (h : PE X e t) (i : ∀ σ H Q, t' σ H Q → t σ H Q) : PE X e t' := ⟨fun pins s σ H Q I q => h.run pins s σ H Q I (i σ H Q q)⟩
theorem PT.imp {X : Cx} {e : Expr} {t t' : TT} (h : PT X e t) (i : ∀ σ H Q, t' σ H Q → t σ H Q) : PT X e t' := ⟨fun pins s σ H Q I q => h.run pins s σ H Q I (i σ H Q q)⟩
theorem PA.imp {X : Cx} {e : List Expr} {t t' : TA} (h : PA X e t) (i : ∀ σ H Q, t' σ H Q → t σ H Q) : PA X e t' := ⟨fun pos pins s σ H Q I q => h.run pos pins s σ H Q I (i σ H Q q)⟩

/-! ### moves of the state -/
section
variable {W : Wd} {g : Gh} {Ω : Nat → Bool} {σ : L2.St} {H H' : Hp} {env : Env} {F F' : Hp} {st : DS} {p : Addr} {o : HO}
theorem GR.nM (r : GR W g Ω σ H env F st) (h : H p = none) : ¬ W.mt p := fun z => W.there H st p r.inv z h
theorem GR.free (r : GR W g Ω σ H env F st) (h : H p = none) : F p = none := by
  cases q : F p with
  | none => rfl
  | some u => exact absurd h (r.sub p u q).ne
theorem GR.free0 (r : GR W g Ω σ H env F st) (h : H p = none) : g.H0 p = none := by
  cases q : g.H0 p with
  | none => rfl
  | some u => rw [r.keep p u q (r.nM h)] at h; cases h
theorem Own.upd {W : Wd} {H0 H F : Hp} {v : V} {d : D} (h : Own W H0 H F v d) (hp : H p = none) : Own W H0 (L2.upd H p o) F v d := by
  cases d with
  | lst ds =>
    obtain ⟨q, vs, e, h1, h2⟩ := h
    exact ⟨q, vs, e, by rw [L2.upd_ne (ne_of_none h1 hp)]; exact h1, h2⟩
  | dK ds =>
    obtain ⟨q, vs, e, h1, h2⟩ := h
    exact ⟨q, vs, e, by rw [L2.upd_ne (ne_of_none h1 hp)]; exact h1, h2⟩
  | dT ds =>
    obtain ⟨q, vs, e, h1, h2⟩ := h
    exact ⟨q, vs, e, by rw [L2.upd_ne (ne_of_none h1 hp)]; exact h1, h2⟩
  | _ => exact h
/-- a new object -/
theorem GR.alloc (r : GR W g Ω σ H env F st) (hp : H p = none) (no : ∀ ps, o ≠ .tbl ps := by intro _ z; cases z) : GR W g Ω σ (L2.upd H p o) env F st := by
  refine ⟨fun a u h n => ?_, fun a u h => ?_, r.nmut, r.old, r.new, ?_, r.m0, r.len, fun i d h => ?_, r.sep, fun a u φ fd c' e1 e2 e3 => ?_⟩
  · have z := r.keep a u h n
    rw [L2.upd_ne (ne_of_none z hp)]; exact z
  · exact (r.sub a u h).keep fun o z => by rw [L2.upd_ne (ne_of_none z hp)]; exact z
  · exact W.stable _ _ _ r.inv (fun a h => L2.upd_ne fun e => r.nM hp (e ▸ h)) fun a c q h => by rw [L2.upd_ne (ne_of_none h hp)]; exact h
  · obtain ⟨v, h1, h2⟩ := r.slot i d h
    refine ⟨v, h1, ?_⟩
    split
    · rename_i e
      rw [if_pos e] at h2
      exact h2.upd hp
    · rename_i e
      rw [if_neg e] at h2
      exact h2
  · have z := r.tb a u φ fd c' e1 e2 e3
    rw [L2.upd_ne (ne_of_none z hp)]; exact z
theorem Fx.alloc (hp : H p = none) : Fx H F (L2.upd H p o) F := ⟨Le.refl F, fun _ _ h => .inl h, fun a h => by
  by_cases e : a = p
  · rw [e, L2.upd_same]; simp
  · rw [L2.upd_ne e]; exact h⟩
theorem Own.mono {W : Wd} {H0 H F F' : Hp} {v : V} {d : D} (h : Own W H0 H F v d) (l : Le F F') (n : ∀ p, isM d = true → v = .ref p → F' p = none) : Own W H0 H F' v d := by
  cases d with
  | lst ds =>
    obtain ⟨q, vs, e, h1, h2, h3, h4⟩ := h
    exact ⟨q, vs, e, h1, n q rfl e, h3, h4.mono l⟩
  | dK ds =>
    obtain ⟨q, vs, e, h1, h2, h3, h4, h5⟩ := h
    exact ⟨q, vs, e, h1, n q rfl e, h3, h4, h5.mono l⟩
  | dT ds =>
    obtain ⟨q, vs, e, h1, h2, h3, h4, h5⟩ := h
    exact ⟨q, vs, e, h1, n q rfl e, h3, h4, h5.mono l⟩
  | non => exact Rep.mono l h
  | bl _ => exact Rep.mono l h
  | int _ => exact Rep.mono l h
  | str _ => exact Rep.mono l h
  | tup _ => exact Rep.mono l h
  | fn _ => exact Rep.mono l h
  | clo _ _ => exact Rep.mono l h
  | scr _ => exact Rep.mono l h
  | exc _ _ => exact Rep.mono l h
  | drw => exact Rep.mono l h
/-- an object that nobody owns is known for ever -/
theorem GR.knowT (r : GR W g Ω σ H env F st) (hp : H p = some o) (hF : F p = none) (h0 : g.H0 p = none) (n : ∀ i d, Ω i = true → lk env i = some d → isM d = true → σ[i]? ≠ some (some (.ref p))) (nt : TbOk H (L2.upd F p o)) : GR W g Ω σ H env (L2.upd F p o) st := by
  have nm : ¬ W.mt p := fun z => r.m0 p z h0
  have ll : Le F (L2.upd F p o) := fun a u h => by rw [L2.upd_ne (ne_of_none h hF)]; exact h
  refine ⟨r.keep, fun a u h => ?_, fun a h => ?_, r.old.trans ll, fun a u h => ?_, r.inv, r.m0, r.len, fun i d h => ?_, r.sep, nt⟩
  · by_cases e : a = p
    · subst e; rw [L2.upd_same] at h; cases h; exact .inl hp
    · rw [L2.upd_ne e] at h; exact r.sub a u h
  · rw [L2.upd_ne (a := p) (b := a) (fun e : a = p => nm (by rw [← e]; exact h))]; exact r.nmut a h
  · by_cases e : a = p
    · subst e; exact .inr h0
    · rw [L2.upd_ne e] at h; exact r.new a u h
  · obtain ⟨v, h1, h2⟩ := r.slot i d h
    refine ⟨v, h1, ?_⟩
    split
    · rename_i e
      rw [if_pos e] at h2
      refine h2.mono ll fun q hm hv => ?_
      have nq : q ≠ p := fun z => n i d e h hm (by rw [h1, hv, z])
      rw [L2.upd_ne nq]
      cases d with
      | lst ds => obtain ⟨q', vs, e', _, h2, _⟩ := h2; rw [hv] at e'; cases e'; exact h2
      | dK ds => obtain ⟨q', vs, e', _, h2, _⟩ := h2; rw [hv] at e'; cases e'; exact h2
      | dT ds => obtain ⟨q', vs, e', _, h2, _⟩ := h2; rw [hv] at e'; cases e'; exact h2
      | _ => cases hm
    · rename_i e
      rw [if_neg e] at h2
      exact h2.mono ll
theorem GR.know (r : GR W g Ω σ H env F st) (hp : H p = some o) (hF : F p = none) (h0 : g.H0 p = none) (n : ∀ i d, Ω i = true → lk env i = some d → isM d = true → σ[i]? ≠ some (some (.ref p))) (nf : ∀ u φ, o ≠ .frz u (.ext φ) := by intro _ _ z; cases z) : GR W g Ω σ H env (L2.upd F p o) st := r.knowT hp hF h0 n (r.tb.know nf)
/-- a new object, known for ever -/
theorem GR.allocT (r : GR W g Ω σ H env F st) (hp : H p = none) (no : ∀ ps, o ≠ .tbl ps := by intro _ z; cases z) (nt : TbOk (L2.upd H p o) (L2.upd F p o)) : GR W g Ω σ (L2.upd H p o) env (L2.upd F p o) st :=
  (r.alloc (o := o) hp no).knowT (nt := nt) L2.upd_same (r.free hp) (r.free0 hp) fun i d ho hl hm hs => by
    obtain ⟨v, h1, h2⟩ := r.slot i d hl
    rw [hs] at h1
    cases h1
    rw [if_pos ho] at h2
    cases d with
    | lst ds => obtain ⟨q', vs, e', h2, _⟩ := h2; cases e'; rw [hp] at h2; cases h2
    | dK ds => obtain ⟨q', vs, e', h2, _⟩ := h2; cases e'; rw [hp] at h2; cases h2
    | dT ds => obtain ⟨q', vs, e', h2, _⟩ := h2; cases e'; rw [hp] at h2; cases h2
    | _ => cases hm
theorem GR.allocK (r : GR W g Ω σ H env F st) (hp : H p = none) (no : ∀ ps, o ≠ .tbl ps := by intro _ z; cases z) (nf : ∀ u φ, o ≠ .frz u (.ext φ) := by intro _ _ z; cases z) : GR W g Ω σ (L2.upd H p o) env (L2.upd F p o) st :=
  (r.alloc (o := o) hp no).know (nf := nf) L2.upd_same (r.free hp) (r.free0 hp) fun i d ho hl hm hs => by
    obtain ⟨v, h1, h2⟩ := r.slot i d hl
    rw [hs] at h1
    cases h1
    rw [if_pos ho] at h2
    cases d with
    | lst ds => obtain ⟨q', vs, e', h2, _⟩ := h2; cases e'; rw [hp] at h2; cases h2
    | dK ds => obtain ⟨q', vs, e', h2, _⟩ := h2; cases e'; rw [hp] at h2; cases h2
    | dT ds => obtain ⟨q', vs, e', h2, _⟩ := h2; cases e'; rw [hp] at h2; cases h2
    | _ => cases hm
theorem Fx.allocK (hF : F p = none) (hp : H p = none) : Fx H F (L2.upd H p o) (L2.upd F p o) := ⟨fun a u h => by rw [L2.upd_ne (ne_of_none h hF)]; exact h, fun a u h => by
  by_cases e : a = p
  · exact .inr (e ▸ hp)
  · rw [L2.upd_ne e] at h; exact .inl h, (Fx.alloc (F := F) hp).there⟩
end
end Ev
/-! Ev3: the rules of expressions. -/
namespace Ev
open PySem PySem.Spec PyProof.Rows L2

def SE (W : Wd) (X : Cx) (g : Gh) (Ω : Nat → Bool) (m : Md) (e : Expr) (f : Fe) : Prop := PE X e (tE W g Ω m f)
def ST (W : Wd) (X : Cx) (g : Gh) (Ω : Nat → Bool) (e : Expr) (f : Env → DS → Res Bool) : Prop := PT X e (tT W g Ω f)
def SA (W : Wd) (X : Cx) (g : Gh) (Ω : Nat → Bool) (es : List Expr) (f : Fs) : Prop := PA X es (tA W g Ω f)

/-- what stands there now -/
def RC (W : Wd) (H F : Hp) (v : V) (d : D) : Prop :=
  match d with
  | .lst ds => ∃ p vs, v = .ref p ∧ H p = some (.lst vs) ∧ Reps W F vs ds
  | .dK kvs => ∃ p ws, v = .ref p ∧ Rd H p (.dK ws) ∧ ws.map (·.1) = kvs.map (·.1) ∧ Reps W F (ws.map (·.2)) (kvs.map (·.2))
  | .dT kvs => ∃ p ws, v = .ref p ∧ Rd H p (.dT ws) ∧ ws.map (·.1) = kvs.map (·.1) ∧ Reps W F (ws.map (·.2)) (kvs.map (·.2))
  | d => Rep W F v d
section
variable {W : Wd} {g : Gh} {Ω : Nat → Bool} {σ : L2.St} {H H' : Hp} {env : Env} {F F' : Hp} {st : DS} {v : V} {d : D} {m : Md}
theorem RC.of_rep (h : Rep W F v d) (l : LeK F H) : RC W H F v d := by
  cases h with
  | tup h r => exact .tup h r
  | lst h r => exact ⟨_, _, rfl, (l _ _ h).plain rfl, r⟩
  | scr h => exact .scr h
  | dK h e r => exact ⟨_, _, rfl, (l _ _ h).rd, e, r⟩
  | dT h e r => exact ⟨_, _, rfl, (l _ _ h).rd, e, r⟩
  | non => exact .non
  | bl => exact .bl _
  | int => exact .int _
  | str => exact .str _
  | fn h => exact .fn h
  | drw h k => exact .drw h k
  | clo h r => exact .clo h r
  | exc0 h r => exact .exc0 h r
  | exc1 h r s t u => exact .exc1 h r s t u
theorem RC.of_own {H0 : Hp} (h : Own W H0 H F v d) (l : LeK F H) : RC W H F v d := by
  cases d with
  | lst ds => obtain ⟨p, vs, e, h1, _, _, r⟩ := h; exact ⟨p, vs, e, h1, r⟩
  | dK ds => obtain ⟨p, vs, e, h1, _, _, e2, r⟩ := h; exact ⟨p, vs, e, .inl h1, e2, r⟩
  | dT ds => obtain ⟨p, vs, e, h1, _, _, e2, r⟩ := h; exact ⟨p, vs, e, .inl h1, e2, r⟩
  | non => exact .of_rep h l
  | bl _ => exact .of_rep h l
  | int _ => exact .of_rep h l
  | str _ => exact .of_rep h l
  | tup _ => exact .of_rep h l
  | fn _ => exact .of_rep h l
  | clo _ _ => exact .of_rep h l
  | scr _ => exact .of_rep h l
  | exc _ _ => exact .of_rep h l
  | drw => exact .of_rep h l
abbrev Bor (W : Wd) (Ω : Nat → Bool) (σ : L2.St) (env : Env) (F : Hp) (v : V) (d : D) : Prop := Rep W F v d ∨ ∃ i, Ω i = true ∧ σ[i]? = some (some v) ∧ lk env i = some d
theorem GR.cur (r : GR W g Ω σ H env F st) (h : Bor W Ω σ env F v d) : RC W H F v d := by
  rcases h with h | ⟨i, o, e1, e2⟩
  · exact .of_rep h r.sub
  · obtain ⟨u, h1, h2⟩ := r.slot i d e2
    rw [e1] at h1
    cases h1
    rw [if_pos o] at h2
    exact .of_own h2 r.sub
theorem Bor.mono (h : Bor W Ω σ env F v d) (l : Le F F') : Bor W Ω σ env F' v d := h.elim (fun z => .inl (z.mono l)) .inr
end

section
variable {W : Wd} {g : Gh} {Ω : Nat → Bool} {m : Md} {σ : L2.St} {env : Env} {H H1 H2 F F1 F2 : Hp} {v : V} {d : D} {st' : DS} {Q : VK}
theorem Lies.back (t : ∀ a, H a ≠ none → H1 a ≠ none) (l : Lies W g Ω σ env H1 H2 F2 v d m) : Lies W g Ω σ env H H2 F2 v d m := by
  have nn : ∀ p, H1 p = none → H p = none := fun p h => by
    cases q : H p with
    | none => rfl
    | some u => exact absurd h (t p (by rw [q]; simp))
  cases m with
  | rep => exact l
  | bor => exact l
  | own =>
    cases d with
    | lst ds => obtain ⟨p, vs, e, h1, h2, h3, r⟩ := l; exact ⟨p, vs, e, h1, h2, nn p h3, r⟩
    | dK ds => obtain ⟨p, vs, e, h1, h2, h3, r⟩ := l; exact ⟨p, vs, e, h1, h2, nn p h3, r⟩
    | dT ds => obtain ⟨p, vs, e, h1, h2, h3, r⟩ := l; exact ⟨p, vs, e, h1, h2, nn p h3, r⟩
    | _ => exact l
theorem PstE.after (fx : Fx H F H1 F1) (z : PstE W g Ω m σ H F env Q d st') : PstE W g Ω m σ H1 F1 env Q d st' := fun v H2 F2 g2 fx2 l => z v H2 F2 g2 (fx.trans fx2) (l.back fx.there)
theorem PstT.after {Q : Bool → Hp → Prop} {b : Bool} (fx : Fx H F H1 F1) (z : PstT W g Ω σ H F env Q b st') : PstT W g Ω σ H1 F1 env Q b st' := fun H2 F2 g2 fx2 => z H2 F2 g2 (fx.trans fx2)
theorem PstA.after {Q : List V → Hp → Prop} {ds : List D} (fx : Fx H F H1 F1) (z : PstA W g Ω σ H F env Q ds st') : PstA W g Ω σ H1 F1 env Q ds st' := fun v H2 F2 g2 fx2 l => z v H2 F2 g2 (fx.trans fx2) l
end
section
variable {W : Wd} {X : Cx} {g : Gh} {Ω : Nat → Bool} {m : Md} {e a b c : Expr} {f fa fb fc : Fe} {pos : Pos}
/-- a value that is known for ever may be read -/
theorem SE.bor (h : SE W X g Ω .rep e f) : SE W X g Ω .bor e f := PE.imp h fun σ H Q ⟨env, F, st, gr, z⟩ => ⟨env, F, st, gr, z.mono fun d st' z v H' F' g' fx l => z v H' F' g' fx (.inl l)⟩
/-- nobody else holds it: from now on it is known for ever -/
theorem tE_own_rep {σ : L2.St} {H : Hp} {Q : VK} : tE W g Ω .rep f σ H Q → tE W g Ω .own f σ H Q := fun ⟨env, F, st, gr, z⟩ => ⟨env, F, st, gr, z.mono fun d st' z v H' F' g' fx l => by
    have key : ∀ (p : Addr) (o : HO), v = .ref p → H' p = some o → F' p = none → H p = none → (∀ u φ, o ≠ .frz u (.ext φ)) → (∀ F2, Le F' F2 → F2 p = some o → Rep W F2 v d) → Q v H' := fun p o hv h1 h2 h3 nf hr => by
      have no : ∀ i e, Ω i = true → lk env i = some e → isM e = true → σ[i]? ≠ some (some (.ref p)) := fun i e ho hl hm hs => by
        obtain ⟨u, e1, e2⟩ := gr.slot i e hl
        rw [hs] at e1
        cases e1
        rw [if_pos ho] at e2
        cases e with
        | lst ds => obtain ⟨q', vs, e', h2, _⟩ := e2; cases e'; rw [h3] at h2; cases h2
        | dK ds => obtain ⟨q', vs, e', h2, _⟩ := e2; cases e'; rw [h3] at h2; cases h2
        | dT ds => obtain ⟨q', vs, e', h2, _⟩ := e2; cases e'; rw [h3] at h2; cases h2
        | _ => cases hm
      have ll : Le F' (L2.upd F' p o) := fun a u h => by rw [L2.upd_ne (ne_of_none h h2)]; exact h
      refine z v H' (L2.upd F' p o) (g'.know h1 h2 (gr.free0 h3) no (nf := nf)) ⟨fx.le.trans ll, fun a u h => ?_, fx.there⟩ (hr _ ll L2.upd_same)
      by_cases e : a = p
      · exact .inr (e ▸ h3)
      · rw [L2.upd_ne e] at h; exact fx.new a u h
    cases d with
    | lst ds => obtain ⟨p, vs, e, h1, h2, h3, r⟩ := l; exact key p _ e h1 h2 h3 (fun _ _ z => by cases z) fun F2 ll k => by rw [e]; exact .lst k (r.mono ll)
    | dK ds => obtain ⟨p, vs, e, h1, h2, h3, e2, r⟩ := l; exact key p _ e h1 h2 h3 (fun _ _ z => by cases z) fun F2 ll k => by rw [e]; exact .dK k e2 (r.mono ll)
    | dT ds => obtain ⟨p, vs, e, h1, h2, h3, e2, r⟩ := l; exact key p _ e h1 h2 h3 (fun _ _ z => by cases z) fun F2 ll k => by rw [e]; exact .dT k e2 (r.mono ll)
    | non => exact z v H' F' g' fx l
    | bl _ => exact z v H' F' g' fx l
    | int _ => exact z v H' F' g' fx l
    | str _ => exact z v H' F' g' fx l
    | tup _ => exact z v H' F' g' fx l
    | fn _ => exact z v H' F' g' fx l
    | clo _ _ => exact z v H' F' g' fx l
    | scr _ => exact z v H' F' g' fx l
    | exc _ _ => exact z v H' F' g' fx l
    | drw => exact z v H' F' g' fx l⟩
theorem SE.rep (h : SE W X g Ω .own e f) : SE W X g Ω .rep e f := PE.imp h fun σ H Q z => tE_own_rep z
theorem SE.stuck : SE W X g Ω m e fun _ _ => .stuck := ⟨fun _ _ _ _ _ _ ⟨_, _, _, _, z⟩ => z.elim⟩
theorem SE.congr {f' : Fe} (h : SE W X g Ω m e f) (q : f' = f) : SE W X g Ω m e f' := q ▸ h
theorem ST.congr {t t' : Env → DS → Res Bool} (h : ST W X g Ω e t) (q : t' = t) : ST W X g Ω e t' := q ▸ h
theorem ST.stuck : ST W X g Ω e fun _ _ => .stuck := ⟨fun _ _ _ _ _ _ ⟨_, _, _, _, z⟩ => z.elim⟩

/-! ### constants, names -/
theorem se_c {v : V} {d : D} (h : PE X e (tC v)) (r : ∀ F, Rep W F v d) : SE W X g Ω .rep e fun _ st => .ok d st :=
  PE.imp h fun σ H Q ⟨env, F, st, gr, z⟩ => z v H F gr (Fx.refl H F) (r F)
theorem se_cO {v : V} {d : Option D} (h : PE X e (tC v)) (r : ∀ x F, d = some x → Rep W F v x) : SE W X g Ω .rep e fun _ st => ofO d st :=
  PE.imp h fun σ H Q ⟨env, F, st, gr, z⟩ => by
    obtain ⟨d', e, z⟩ := Wn.ofO z
    exact z v H F gr (Fx.refl H F) (r d' F e)
theorem se_var {i : Nat} (h : PE X e (tVar i)) (o : Ω i = false) : SE W X g Ω .rep e fun env st => ofO (lk env i) st :=
  PE.imp h fun σ H Q ⟨env, F, st, gr, z⟩ => by
    obtain ⟨d, q, z⟩ := Wn.ofO z
    obtain ⟨v, h1, h2⟩ := gr.slot i d q
    rw [if_neg (by rw [o]; decide)] at h2
    exact ⟨v, h1, z v H F gr (Fx.refl H F) h2⟩
theorem se_bor {i : Nat} (h : PE X e (tVar i)) : SE W X g Ω .bor e fun env st => ofO (lk env i) st :=
  PE.imp h fun σ H Q ⟨env, F, st, gr, z⟩ => by
    obtain ⟨d, q, z⟩ := Wn.ofO z
    obtain ⟨v, h1, h2⟩ := gr.slot i d q
    refine ⟨v, h1, z v H F gr (Fx.refl H F) ?_⟩
    by_cases o : Ω i = true
    · exact .inr ⟨i, o, h1, q⟩
    · rw [if_neg o] at h2; exact .inl h2

/-! ### two operands, one -/
/-- what an operation on two values must give -/
def Op2 (W : Wd) (g : Gh) (Ω : Nat → Bool) (m : Md) (r : R2) (op : D → D → Option D) : Prop :=
  ∀ (σ : L2.St) (H : Hp) (env : Env) (F : Hp) (st : DS) (x y d : D) (v u : V) (Q : VK), GR W g Ω σ H env F st → RC W H F v x → RC W H F u y → op x y = some d →
    PstE W g Ω m σ H F env Q d st → r v u H Q
theorem tE_op2 {r : R2} {op : D → D → Option D} (ho : Op2 W g Ω m r op) {σ : L2.St} {H : Hp} {Q : VK}
    (z : tE W g Ω m (fun env st => (fa env st).bind fun x st => (fb env st).bind fun y st => ofO (op x y) st) σ H Q) : tOp r (tE W g Ω .bor fa) (tE W g Ω .bor fb) σ H Q := by
  obtain ⟨env, F, st, gr, z⟩ := z
  refine ⟨env, F, st, gr, z.bind.mono fun x st1 z v H1 F1 g1 fx1 l1 => ⟨env, F1, st1, g1, z.bind.mono fun y st2 z u H2 F2 g2 fx2 l2 => ?_⟩⟩
  obtain ⟨d, q, z⟩ := Wn.ofO z
  exact ho σ H2 env F2 st2 x y d v u Q g2 (g2.cur (Bor.mono l1 fx2.le)) (g2.cur l2) q (z.after (fx1.trans fx2))
theorem se_bin {op : Operator} {r : R2} {o : D → D → Option D} (ho : OpR X (binaryOp op) r) (h : Op2 W g Ω m r o) (ha : SE W X g Ω .bor a fa) (hb : SE W X g Ω .bor b fb) :
    SE W X g Ω m (.BinOp a op b pos) fun env st => (fa env st).bind fun x st => (fb env st).bind fun y st => ofO (o x y) st :=
  PE.imp (pe_op ho ha hb) fun σ H Q z => tE_op2 h z
theorem se_cmp {op : CmpOp} {r : R2} {o : D → D → Option D} (ho : OpR X (compareOp op) r) (h : Op2 W g Ω m r o) (ha : SE W X g Ω .bor a fa) (hb : SE W X g Ω .bor b fb) (hm : behindInMarks op b = false) :
    SE W X g Ω m (.Compare a [op] [b] pos) fun env st => (fa env st).bind fun x st => (fb env st).bind fun y st => ofO (o x y) st :=
  PE.imp (pe_cmpR ho ha hb hm) fun σ H Q z => tE_op2 h z
/-- an operation on one value -/
def Op1 (W : Wd) (g : Gh) (Ω : Nat → Bool) (m : Md) (r : V → Hp → VK → Prop) (op : D → Option D) : Prop :=
  ∀ (σ : L2.St) (H : Hp) (env : Env) (F : Hp) (st : DS) (x d : D) (v : V) (Q : VK), GR W g Ω σ H env F st → RC W H F v x → op x = some d → PstE W g Ω m σ H F env Q d st → r v H Q
theorem tE_op1 {r : V → Hp → VK → Prop} {op : D → Option D} (ho : Op1 W g Ω m r op) {σ : L2.St} {H : Hp} {Q : VK}
    (z : tE W g Ω m (fun env st => (fa env st).bind fun x st => ofO (op x) st) σ H Q) : tE W g Ω .bor fa σ H fun v H1 => r v H1 Q := by
  obtain ⟨env, F, st, gr, z⟩ := z
  refine ⟨env, F, st, gr, z.bind.mono fun x st1 z v H1 F1 g1 fx1 l1 => ?_⟩
  obtain ⟨d, q, z⟩ := Wn.ofO z
  exact ho σ H1 env F1 st1 x d v Q g1 (g1.cur l1) q (z.after fx1)
theorem se_un {op : UnaryOp} {r : V → Hp → VK → Prop} {o : D → Option D} (ho : UnR X (unaryOp op) r) (h : Op1 W g Ω m r o) (ha : SE W X g Ω .bor a fa) :
    SE W X g Ω m (.UnaryOp op a pos) fun env st => (fa env st).bind fun x st => ofO (o x) st :=
  PE.imp (pe_un ho ha) fun σ H Q z => tE_op1 h z

/-! ### tests -/
/-- a test by its value -/
theorem st_val (h : SE W X g Ω .bor e f) (he : ∀ whole, isTrue e X.env whole = (do let v ← whole; standAt e.pos; holding [v] (truthy v))) :
    ST W X g Ω e fun env st => (f env st).bind fun x st => ofO (asB x) st :=
  PT.imp (pt_val h he) fun σ H Q ⟨env, F, st, gr, z⟩ => ⟨env, F, st, gr, z.bind.mono fun x st1 z v H' F' g' fx l => by
      obtain ⟨b, q, z⟩ := Wn.ofO z
      cases x with
      | bl b' => cases q; exact ⟨b, Rep.bl_inv (g'.cur l), z H' F' g' fx⟩
      | _ => cases q⟩
theorem st_cmp {op : CmpOp} {r : R2} {o : D → D → Option Bool} (ho : OpR X (compareOp op) r) (h : Op2 W g Ω .rep r fun x y => (o x y).map .bl) (ha : SE W X g Ω .bor a fa) (hb : SE W X g Ω .bor b fb) (hm : behindInMarks op b = false) :
    ST W X g Ω (.Compare a [op] [b] pos) fun env st => (fa env st).bind fun x st => (fb env st).bind fun y st => ofO (o x y) st :=
  PT.imp (pt_cmpR ho ha hb hm) fun σ H Q ⟨env, F, st, gr, z⟩ => by
    refine tE_op2 (W := W) (g := g) (Ω := Ω) (m := .rep) h ⟨env, F, st, gr, Wn.unbind (z.bind.mono fun x st1 z => Wn.unbind (z.bind.mono fun y st2 z => ?_))⟩
    obtain ⟨k, q, z⟩ := Wn.ofO z
    show Wn _ _ (ofO ((o x y).map D.bl) st2)
    rw [q]
    exact fun v H' F' g' fx l => ⟨k, Rep.bl_inv l, z H' F' g' fx⟩
theorem st_not {t : Env → DS → Res Bool} (h : ST W X g Ω a t) : ST W X g Ω (.UnaryOp .Not a pos) fun env st => (t env st).bind fun x st => .ok (!x) st :=
  PT.imp (pt_not h) fun σ H Q ⟨env, F, st, gr, z⟩ => ⟨env, F, st, gr, z.bind.mono fun x st1 z H' F' g' fx => z H' F' g' fx⟩
theorem st_and {rest : List Expr} {t u : Env → DS → Res Bool} (h : ST W X g Ω a t) (hr : PW X (.BoolOp .And (b :: rest) pos) (tT W g Ω u)) :
    PW X (.BoolOp .And (a :: b :: rest) pos) (tT W g Ω fun env st => (t env st).bind fun k st => if k then u env st else .ok false st) :=
  ⟨fun wh pins s σ H Q I ⟨env, F, st, gr, z⟩ => (pw_and h hr).run wh pins s σ H Q I ⟨env, F, st, gr, z.bind.mono fun x st1 z H' F' g' fx => by
    cases x with
    | true => rw [if_pos rfl] at z ⊢; exact ⟨env, F', st1, g', z.mono fun _ _ z => z.after fx⟩
    | false => rw [if_neg (by decide)] at z ⊢; exact z H' F' g' fx⟩⟩
theorem st_or {rest : List Expr} {t u : Env → DS → Res Bool} (h : ST W X g Ω a t) (hr : PW X (.BoolOp .Or (b :: rest) pos) (tT W g Ω u)) :
    PW X (.BoolOp .Or (a :: b :: rest) pos) (tT W g Ω fun env st => (t env st).bind fun k st => if k then .ok true st else u env st) :=
  ⟨fun wh pins s σ H Q I ⟨env, F, st, gr, z⟩ => (pw_or h hr).run wh pins s σ H Q I ⟨env, F, st, gr, z.bind.mono fun x st1 z H' F' g' fx => by
    cases x with
    | true => rw [if_pos rfl] at z ⊢; exact z H' F' g' fx
    | false => rw [if_neg (by decide)] at z ⊢; exact ⟨env, F', st1, g', z.mono fun _ _ z => z.after fx⟩⟩⟩
theorem se_ite {t : Env → DS → Res Bool} (h : ST W X g Ω c t) (ha : SE W X g Ω m a fa) (hb : SE W X g Ω m b fb) :
    SE W X g Ω m (.IfExp c a b pos) fun env st => (t env st).bind fun k st => if k then fa env st else fb env st :=
  PE.imp (pe_ifExp h ha hb) fun σ H Q ⟨env, F, st, gr, z⟩ => ⟨env, F, st, gr, z.bind.mono fun x st1 z H' F' g' fx => by
      cases x with
      | true => rw [if_pos rfl] at z ⊢; exact ⟨env, F', st1, g', z.mono fun _ _ z => z.after fx⟩
      | false => rw [if_neg (by decide)] at z ⊢; exact ⟨env, F', st1, g', z.mono fun _ _ z => z.after fx⟩⟩
/-- and, or of truths as values -/
theorem se_and {rest : List Expr} (h : SE W X g Ω .bor a fa) (hr : SE W X g Ω .rep (.BoolOp .And (b :: rest) pos) fb) :
    SE W X g Ω .rep (.BoolOp .And (a :: b :: rest) pos) fun env st => (fa env st).bind fun x st => (ofO (asB x) st).bind fun k st => if k then fb env st else .ok (.bl false) st :=
  PE.imp (pe_and h hr) fun σ H Q ⟨env, F, st, gr, z⟩ => ⟨env, F, st, gr, z.bind.mono fun x st1 z v H' F' g' fx l => by
    obtain ⟨k, q, z2⟩ := Wn.ofO z.bind
    clear z
    cases x with
    | bl b' =>
      cases q
      refine ⟨k, Rep.bl_inv (g'.cur l), ?_⟩
      cases k with
      | true => rw [if_pos rfl] at z2 ⊢; exact ⟨env, F', st1, g', z2.mono fun _ _ z => z.after fx⟩
      | false => rw [if_neg (by decide)] at z2 ⊢; exact z2 _ H' F' g' fx (.bl _)
    | _ => cases q⟩
theorem se_or {rest : List Expr} (h : SE W X g Ω .bor a fa) (hr : SE W X g Ω .rep (.BoolOp .Or (b :: rest) pos) fb) :
    SE W X g Ω .rep (.BoolOp .Or (a :: b :: rest) pos) fun env st => (fa env st).bind fun x st => (ofO (asB x) st).bind fun k st => if k then .ok (.bl true) st else fb env st :=
  PE.imp (pe_or h hr) fun σ H Q ⟨env, F, st, gr, z⟩ => ⟨env, F, st, gr, z.bind.mono fun x st1 z v H' F' g' fx l => by
    obtain ⟨k, q, z2⟩ := Wn.ofO z.bind
    clear z
    cases x with
    | bl b' =>
      cases q
      refine ⟨k, Rep.bl_inv (g'.cur l), ?_⟩
      cases k with
      | true => rw [if_pos rfl] at z2 ⊢; exact z2 _ H' F' g' fx (.bl _)
      | false => rw [if_neg (by decide)] at z2 ⊢; exact ⟨env, F', st1, g', z2.mono fun _ _ z => z.after fx⟩
    | _ => cases q⟩
theorem se_not (h : SE W X g Ω .bor a fa) : SE W X g Ω .rep (.UnaryOp .Not a pos) fun env st => (fa env st).bind fun x st => ofO ((asB x).map fun b => .bl (!b)) st :=
  PE.imp (pe_not h) fun σ H Q ⟨env, F, st, gr, z⟩ => ⟨env, F, st, gr, z.bind.mono fun x st1 z v H' F' g' fx l => by
    obtain ⟨k, q, z⟩ := Wn.ofO z
    cases x with
    | bl b' => cases q; exact ⟨b', Rep.bl_inv (g'.cur l), z _ H' F' g' fx (.bl _)⟩
    | _ => cases q⟩
/-! ### argument lists, displays -/
theorem sa_nil : SA W X g Ω [] fun _ st => .ok [] st := PA.imp pa_nil fun σ H Q ⟨env, F, st, gr, z⟩ => z [] H F gr (Fx.refl H F) .nil
theorem sa_cons {es : List Expr} {fs : Fs} (ha : SE W X g Ω .rep a fa) (hr : SA W X g Ω es fs) (hs : starEach (a :: es) X.env = (false, eval a X.env) :: starEach es X.env) :
    SA W X g Ω (a :: es) fun env st => (fa env st).bind fun d st => (fs env st).bind fun ds st => .ok (d :: ds) st :=
  PA.imp (pa_cons ha hr hs) fun σ H Q ⟨env, F, st, gr, z⟩ => ⟨env, F, st, gr, z.bind.mono fun x st1 z v H1 F1 g1 fx1 l1 => ⟨env, F1, st1, g1, z.bind.mono fun ds st2 z vs H2 F2 g2 fx2 l2 =>
    z (v :: vs) H2 F2 g2 (fx1.trans fx2) (.cons (Rep.mono fx2.le l1) l2)⟩⟩
theorem SA.stuck {es : List Expr} : SA W X g Ω es fun _ _ => .stuck := ⟨fun _ _ _ _ _ _ _ ⟨_, _, _, _, z⟩ => z.elim⟩
theorem SA.congr {es : List Expr} {f f' : Fs} (h : SA W X g Ω es f) (q : f' = f) : SA W X g Ω es f' := q ▸ h
theorem Wn.with_ {α : Type} {P R : α → DS → Prop} {L : Str → List D → DS → Prop} {r : Res α} (w : Wn P L r) (h : ∀ a st, r = .ok a st → R a st) : Wn (fun a st => P a st ∧ R a st) L r := by
  cases r with
  | ok a st => exact ⟨w, h a st rfl⟩
  | raise c fs st => exact w
  | stuck => exact w
theorem se_tup {es : List Expr} {fs : Fs} {k : Nat} (h : SA W X g Ω es fs) (n : es.length ≤ 1000000) (hl : ∀ env st ds st', fs env st = .ok ds st' → ds.length = es.length) :
    SE W X g Ω .rep (.Tuple es k pos) fun env st => (fs env st).bind fun ds st => .ok (.tup ds) st :=
  PE.imp (pe_tup h) fun σ H Q ⟨env, F, st, gr, z⟩ => ⟨env, F, st, gr, (z.bind.with_ fun ds st1 => hl _ _ _ _).mono fun ds st1 ⟨z, q⟩ vs H1 F1 g1 fx1 r => by
      refine ⟨?_, fun p hp => ?_⟩
      · rw [r.length, q]
        exact Nat.le_trans n (by decide)
      · have gk := g1.allocK (o := .tup vs) hp
        exact z _ _ _ gk (fx1.trans (Fx.allocK (g1.free hp) hp)) (.tup (SqT.of L2.upd_same) (r.mono (Fx.allocK (o := .tup vs) (g1.free hp) hp).le))⟩
theorem se_lst {es : List Expr} {fs : Fs} (h : SA W X g Ω es fs) (n : es.length ≤ 1000000) (hl : ∀ env st ds st', fs env st = .ok ds st' → ds.length = es.length) :
    SE W X g Ω .own (.List es pos) fun env st => (fs env st).bind fun ds st => .ok (.lst ds) st :=
  PE.imp (pe_lst h) fun σ H Q ⟨env, F, st, gr, z⟩ => ⟨env, F, st, gr, (z.bind.with_ fun ds st1 => hl _ _ _ _).mono fun ds st1 ⟨z, q⟩ vs H1 F1 g1 fx1 r => by
      refine ⟨?_, fun p hp => ?_⟩
      · rw [r.length, q]
        exact Nat.le_trans n (by decide)
      · refine z _ _ _ (g1.alloc (o := .lst vs) hp) (fx1.trans (Fx.alloc hp)) ⟨p, vs, rfl, L2.upd_same, g1.free hp, ?_, r⟩
        cases q : H p with
        | none => rfl
        | some u => exact absurd hp (fx1.there p (by rw [q]; simp))⟩
end
end Ev
/-! Ev4: operations on values. -/
namespace Ev
open PySem PySem.Spec PyProof.Rows L2

/-! ### data as the library's data -/
mutual
def toPy : D → PyData
  | .non => .none
  | .bl b => .bool b
  | .int i => .int i
  | .str x => .str x
  | .tup ds => .tuple (toPys ds)
  | .lst ds => .list (toPys ds)
  | _ => .none
def toPys : List D → List PyData
  | [] => []
  | d :: r => toPy d :: toPys r
end
theorem toPys_map : ∀ ds : List D, toPys ds = ds.map toPy
  | [] => rfl
  | d :: r => by rw [toPys, toPys_map r]; rfl
theorem eqN_py : ∀ (n : Nat) (d : D), eqN n d = true → (toPy d).canLay0 = true ∧ (toPy d).depth ≤ n := by
  have all_ : ∀ (n : Nat), (∀ d, eqN n d = true → (toPy d).canLay0 = true ∧ (toPy d).depth ≤ n) → ∀ ds : List D, ds.all (eqN n) = true → PyData.canLayAll0 (toPys ds) = true ∧ PyData.depthAll (toPys ds) ≤ n := fun n ih ds => by
    induction ds with
    | nil => intro _; exact ⟨rfl, Nat.zero_le _⟩
    | cons d r ihr =>
      intro h
      rw [List.all_cons, Bool.and_eq_true] at h
      obtain ⟨a1, a2⟩ := ih d h.1
      obtain ⟨b1, b2⟩ := ihr h.2
      refine ⟨?_, ?_⟩
      · show ((toPy d).canLay0 && PyData.canLayAll0 (toPys r)) = true
        rw [a1, b1]; rfl
      · show max (toPy d).depth (PyData.depthAll (toPys r)) ≤ n
        omega
  intro n
  induction n with
  | zero =>
    intro d h
    cases d with
    | non => exact ⟨rfl, Nat.zero_le _⟩
    | bl b => exact ⟨rfl, Nat.zero_le _⟩
    | int i => exact ⟨rfl, Nat.zero_le _⟩
    | str x => exact ⟨by have h' : PyData.strOk x = true := by simpa [eqN] using h
                         simpa [toPy, PyData.canLay0] using h', Nat.zero_le _⟩
    | _ => simp [eqN] at h
  | succ n ih =>
    intro d h
    cases d with
    | non => exact ⟨rfl, Nat.zero_le _⟩
    | bl b => exact ⟨rfl, Nat.zero_le _⟩
    | int i => exact ⟨rfl, Nat.zero_le _⟩
    | str x => exact ⟨by have h' : PyData.strOk x = true := by simpa [eqN] using h
                         simpa [toPy, PyData.canLay0] using h', Nat.zero_le _⟩
    | tup ds =>
      obtain ⟨a, b⟩ := all_ n ih ds (by simpa [eqN] using h)
      exact ⟨a, Nat.succ_le_succ b⟩
    | lst ds =>
      obtain ⟨a, b⟩ := all_ n ih ds (by simpa [eqN] using h)
      exact ⟨a, Nat.succ_le_succ b⟩
    | _ => simp [eqN] at h
theorem eqN_shaped {n : Nat} {d : D} (h : eqN n d = true) (hn : n ≤ 64) : SeqAt.shaped (toPy d) = true := by
  obtain ⟨a, b⟩ := eqN_py n d h
  unfold SeqAt.shaped
  rw [a, decide_eq_true (Nat.le_trans b hn)]; rfl
theorem eqN_eqv : ∀ (n : Nat) (a b : D) (m : Nat), eqN n a = true → eqN m b = true → PyData.eqv (toPy a) (toPy b) = eqD a b := by
  have all_ : ∀ (n m : Nat), (∀ a b, eqN n a = true → eqN m b = true → PyData.eqv (toPy a) (toPy b) = eqD a b) → ∀ xs ys : List D, xs.all (eqN n) = true → ys.all (eqN m) = true → PyData.eqvAll (toPys xs) (toPys ys) = eqDs xs ys := fun n m ih xs => by
    induction xs with
    | nil => intro ys _ _; cases ys <;> rfl
    | cons d r ihr =>
      intro ys h h'
      cases ys with
      | nil => rfl
      | cons e s =>
        rw [List.all_cons, Bool.and_eq_true] at h h'
        show (PyData.eqv (toPy d) (toPy e) && PyData.eqvAll (toPys r) (toPys s)) = (eqD d e && eqDs r s)
        rw [ih d e h.1 h'.1, ihr s h.2 h'.2]
  have b2 : ∀ (p : Bool) (q : Int), ((some q : Option Int) == some (if p then 1 else 0)) = ((if p then (1 : Int) else 0) == q) := fun p q => by
    rw [Bool.eq_iff_iff]; simp; exact ⟨fun h => h.symm, fun h => h.symm⟩
  intro n
  induction n with
  | zero =>
    intro a b m h h'
    cases a with
    | non => cases b <;> first | rfl | (cases m <;> simp [eqN] at h')
    | str x => cases b <;> first | rfl | (cases m <;> simp [eqN] at h')
    | bl p => cases b with
      | bl q => cases p <;> cases q <;> rfl
      | int q => exact (b2 p q).symm
      | _ => first | rfl | (cases m <;> simp [eqN] at h')
    | int p => cases b with
      | bl q => show (p == (if q then 1 else 0)) = (some (if q then (1 : Int) else 0) == some p); rw [Bool.eq_iff_iff]; simp; exact ⟨fun h => h.symm, fun h => h.symm⟩
      | int q => show (p == q) = (some q == some p); rw [Bool.eq_iff_iff]; simp; exact ⟨fun h => h.symm, fun h => h.symm⟩
      | _ => first | rfl | (cases m <;> simp [eqN] at h')
    | _ => simp [eqN] at h
  | succ n ih =>
    intro a b m h h'
    cases a with
    | non => cases b <;> first | rfl | (cases m <;> simp [eqN] at h')
    | str x => cases b <;> first | rfl | (cases m <;> simp [eqN] at h')
    | bl p => cases b with
      | bl q => cases p <;> cases q <;> rfl
      | int q => exact (b2 p q).symm
      | _ => first | rfl | (cases m <;> simp [eqN] at h')
    | int p => cases b with
      | bl q => show (p == (if q then 1 else 0)) = (some (if q then (1 : Int) else 0) == some p); rw [Bool.eq_iff_iff]; simp; exact ⟨fun h => h.symm, fun h => h.symm⟩
      | int q => show (p == q) = (some q == some p); rw [Bool.eq_iff_iff]; simp; exact ⟨fun h => h.symm, fun h => h.symm⟩
      | _ => first | rfl | (cases m <;> simp [eqN] at h')
    | tup xs => cases b with
      | tup ys => cases m with
        | zero => simp [eqN] at h'
        | succ m => exact all_ n m (fun a b h h' => ih a b m h h') xs ys (by simpa [eqN] using h) (by simpa [eqN] using h')
      | _ => first | rfl | (cases m <;> simp [eqN] at h')
    | lst xs => cases b with
      | lst ys => cases m with
        | zero => simp [eqN] at h'
        | succ m => exact all_ n m (fun a b h h' => ih a b m h h') xs ys (by simpa [eqN] using h) (by simpa [eqN] using h')
      | _ => first | rfl | (cases m <;> simp [eqN] at h')
    | _ => simp [eqN] at h
section
variable {W : Wd} {H F : Hp}
theorem reps_dp {n : Nat} (l : LeK F H) (ih : ∀ (d : D) (v : V), eqN n d = true → Rep W F v d → Dp W.K H v (toPy d)) : ∀ {vs : List V} {ds : List D}, Reps W F vs ds → ds.all (eqN n) = true → DpAll W.K H vs (toPys ds)
  | _, _, .nil, _ => .nil
  | _, _, .cons r t, h => by
    rw [List.all_cons, Bool.and_eq_true] at h
    exact .cons (ih _ _ h.1 r) (reps_dp l ih t h.2)
theorem rep_dp (l : LeK F H) : ∀ (n : Nat) (d : D) (v : V), eqN n d = true → Rep W F v d → Dp W.K H v (toPy d) := by
  intro n
  induction n with
  | zero =>
    intro d v h r
    cases r with
    | non => exact .non
    | bl b => exact .bl b
    | int i => exact .int i
    | str x => exact .str x
    | _ => simp [eqN] at h
  | succ n ih =>
    intro d v h r
    cases r with
    | non => exact .non
    | bl b => exact .bl b
    | int i => exact .int i
    | str x => exact .str x
    | tup h1 r => exact .tup (l.sqT h1) (reps_dp l ih r (by simpa [eqN] using h))
    | lst h1 r => exact .lst (SqL.of ((l _ _ h1).plain rfl)) (reps_dp l ih r (by simpa [eqN] using h))
    | _ => simp [eqN] at h
theorem rc_dp (l : LeK F H) {n : Nat} {d : D} {v : V} (h : eqN n d = true) (r : RC W H F v d) : Dp W.K H v (toPy d) := by
  cases d with
  | non => exact rep_dp l n _ _ h r
  | bl b => exact rep_dp l n _ _ h r
  | int i => exact rep_dp l n _ _ h r
  | str x => exact rep_dp l n _ _ h r
  | tup ds => exact rep_dp l n _ _ h r
  | lst ds =>
    obtain ⟨p, vs, rfl, h1, r⟩ := r
    cases n with
    | zero => simp [eqN] at h
    | succ n => exact .lst (SqL.of h1) (reps_dp l (rep_dp l n) r (by simpa [eqN] using h))
  | _ => cases n <;> simp [eqN] at h
end

/-! ### comparisons -/
section
variable {W : Wd} {X : Cx} {g : Gh} {Ω : Nat → Bool} {m : Md}
/-- a truth comes out -/
theorem PstE.bl {σ : L2.St} {H F : Hp} {env : Env} {Q : VK} {st : DS} {b : Bool} (gr : GR W g Ω σ H env F st) (z : PstE W g Ω .rep σ H F env Q (.bl b) st) : Q (.bl b) H := z _ H F gr (Fx.refl H F) (.bl b)
theorem PstE.int {σ : L2.St} {H F : Hp} {env : Env} {Q : VK} {st : DS} {b : Int} (gr : GR W g Ω σ H env F st) (z : PstE W g Ω .rep σ H F env Q (.int b) st) : Q (.int b) H := z _ H F gr (Fx.refl H F) (.int b)
theorem PstE.str {σ : L2.St} {H F : Hp} {env : Env} {Q : VK} {st : DS} {b : Str} (gr : GR W g Ω σ H env F st) (z : PstE W g Ω .rep σ H F env Q (.str b) st) : Q (.str b) H := z _ H F gr (Fx.refl H F) (.str b)
theorem o_eq (hK : X.K = W.K) : Op2 W g Ω .rep (rEqD X.K) fun x y => (cmpop .eq x y).map .bl := by
  intro σ H env F st x y d v u Q gr rx ry e z
  simp only [cmpop] at e
  split at e
  · rename_i c
    rw [Bool.and_eq_true] at c
    cases e
    refine ⟨toPy x, toPy y, hK ▸ rc_dp gr.sub c.1 rx, hK ▸ rc_dp gr.sub c.2 ry, eqN_shaped c.1 (by decide), eqN_shaped c.2 (by decide), ?_⟩
    rw [eqN_eqv 60 x y 60 c.1 c.2]
    exact z.bl gr
  · cases e
theorem o_ne (hK : X.K = W.K) : Op2 W g Ω .rep (rNeD X.K) fun x y => (cmpop .ne x y).map .bl := by
  intro σ H env F st x y d v u Q gr rx ry e z
  simp only [cmpop] at e
  split at e
  · rename_i c
    rw [Bool.and_eq_true] at c
    cases e
    refine ⟨toPy x, toPy y, hK ▸ rc_dp gr.sub c.1 rx, hK ▸ rc_dp gr.sub c.2 ry, eqN_shaped c.1 (by decide), eqN_shaped c.2 (by decide), ?_⟩
    rw [eqN_eqv 60 x y 60 c.1 c.2]
    exact z.bl gr
  · cases e
theorem o_le : Op2 W g Ω .rep (rI0 fun i j => .bl (decide (i ≤ j))) fun x y => (cmpop .le x y).map .bl := by
  intro σ H env F st x y d v u Q gr rx ry e z
  cases x <;> cases y <;> cases e
  exact ⟨_, _, Rep.int_inv rx, Rep.int_inv ry, z.bl gr⟩
theorem o_gt : Op2 W g Ω .rep (rI0 fun i j => .bl (decide (j < i))) fun x y => (cmpop .gt x y).map .bl := by
  intro σ H env F st x y d v u Q gr rx ry e z
  cases x <;> cases y <;> cases e
  exact ⟨_, _, Rep.int_inv rx, Rep.int_inv ry, z.bl gr⟩
theorem o_ge : Op2 W g Ω .rep (rI0 fun i j => .bl (decide (j ≤ i))) fun x y => (cmpop .ge x y).map .bl := by
  intro σ H env F st x y d v u Q gr rx ry e z
  cases x <;> cases y <;> cases e
  exact ⟨_, _, Rep.int_inv rx, Rep.int_inv ry, z.bl gr⟩
/-- two rules for one operation -/
theorem Op2.or {r r' : R2} {op op1 op2 : D → D → Option D} (h1 : Op2 W g Ω m r op1) (h2 : Op2 W g Ω m r' op2) (c : ∀ x y d, op x y = some d → op1 x y = some d ∨ op2 x y = some d) : Op2 W g Ω m (fun x y H Q => r x y H Q ∨ r' x y H Q) op := by
  intro σ H env F st x y d v u Q gr rx ry e z
  rcases c x y d e with q | q
  · exact .inl (h1 σ H env F st x y d v u Q gr rx ry q z)
  · exact .inr (h2 σ H env F st x y d v u Q gr rx ry q z)
def ltI : D → D → Option D
  | .int i, .int j => some (.bl (decide (i < j)))
  | _, _ => none
def ltS : D → D → Option D
  | .str i, .str j => some (.bl (strLt i j))
  | _, _ => none
theorem o_lt : Op2 W g Ω .rep (fun x y H Q => rI0 (fun i j => .bl (decide (i < j))) x y H Q ∨ (∃ i j, x = .str i ∧ y = .str j ∧ Q (.bl (decide (i.cps.toList < j.cps.toList))) H)) fun x y => (cmpop .lt x y).map .bl := by
  refine Op2.or (op1 := ltI) (op2 := ltS) ?_ ?_ ?_
  · intro σ H env F st x y d v u Q gr rx ry e z
    cases x <;> cases y <;> cases e
    exact ⟨_, _, Rep.int_inv rx, Rep.int_inv ry, z.bl gr⟩
  · intro σ H env F st x y d v u Q gr rx ry e z
    cases x <;> cases y <;> cases e
    exact ⟨_, _, Rep.str_inv rx, Rep.str_inv ry, z.bl gr⟩
  · intro x y d e
    cases x <;> cases y <;> cases e
    · exact .inl rfl
    · exact .inr rfl
theorem r_lt : OpR X (compareOp .Lt) (fun x y H Q => rI0 (fun i j => .bl (decide (i < j))) x y H Q ∨ (∃ i j, x = .str i ∧ y = .str j ∧ Q (.bl (decide (i.cps.toList < j.cps.toList))) H)) := op_lt.or op_lt_str
end
end Ev
/-! Ev5: operations on values, further. -/
namespace Ev
open PySem PySem.Spec PyProof.Rows L2
section
variable {W : Wd} {X : Cx} {g : Gh} {Ω : Nat → Bool} {m : Md}
theorem OpR.imp {f : Value → Value → Sem Value} {r r' : R2} (h : OpR X f r) (i : ∀ x y H Q, r' x y H Q → r x y H Q) : OpR X f r' := fun pins s σ H x y v u Q I rx ry q => h pins s σ H x y v u Q I rx ry (i _ _ _ _ q)
/-! ### is -/
def rIs : R2 := fun x y H Q => (∃ a b, x = .bl a ∧ y = .bl b ∧ Q (.bl (decide (a = b))) H) ∨ (y = .non ∧ Q (.bl (decide (x = .non))) H)
def rIsnt : R2 := fun x y H Q => (∃ a b, x = .bl a ∧ y = .bl b ∧ Q (.bl (!decide (a = b))) H) ∨ (y = .non ∧ Q (.bl (!decide (x = .non))) H)
theorem r_is : OpR X (compareOp .Is) rIs := op_is_bl.or op_isN
theorem r_isnot : OpR X (compareOp .IsNot) rIsnt := op_isnot_bl.or op_notN
theorem RC.non_iff {H F : Hp} {v : V} {d : D} (h : RC W H F v d) : decide (v = .non) = isNonD d := by
  cases d with
  | non => rw [Rep.non_inv h]; rfl
  | bl b => rw [Rep.bl_inv h]; rfl
  | int b => rw [Rep.int_inv h]; rfl
  | str b => rw [Rep.str_inv h]; rfl
  | tup ds => cases h; rfl
  | lst ds => obtain ⟨p, vs, rfl, _⟩ := h; rfl
  | dK ds => obtain ⟨p, vs, rfl, _⟩ := h; rfl
  | dT ds => obtain ⟨p, vs, rfl, _⟩ := h; rfl
  | fn f => cases h; rfl
  | clo b e => cases h; rfl
  | exc c fs => cases h <;> rfl
  | drw => cases h; rfl
  | scr ns => cases h; rfl
theorem isD_cases {x y : D} {k : Bool} (e : isD x y = some k) : (∃ a b, x = .bl a ∧ y = .bl b ∧ k = decide (a = b)) ∨ (y = .non ∧ k = isNonD x) := by
  cases y with
  | non => right; cases x <;> (cases e; exact ⟨rfl, rfl⟩)
  | bl b =>
    left
    cases x with
    | bl a => cases e; exact ⟨a, b, rfl, rfl, by rw [Bool.beq_eq_decide_eq]⟩
    | _ => cases e
  | _ => cases x <;> cases e
theorem o_is : Op2 W g Ω .rep rIs fun x y => (cmpop .is x y).map .bl := by
  intro σ H env F st x y d v u Q gr rx ry e z
  simp only [cmpop] at e
  cases q : isD x y with
  | none => rw [q] at e; cases e
  | some k =>
    rw [q] at e
    cases e
    rcases isD_cases q with ⟨a, b, rfl, rfl, rfl⟩ | ⟨rfl, hk⟩
    · exact .inl ⟨a, b, Rep.bl_inv rx, Rep.bl_inv ry, z.bl gr⟩
    · refine .inr ⟨Rep.non_inv ry, ?_⟩
      rw [rx.non_iff, ← hk]
      exact z.bl gr
theorem o_isnot : Op2 W g Ω .rep rIsnt fun x y => (cmpop .isnot x y).map .bl := by
  intro σ H env F st x y d v u Q gr rx ry e z
  simp only [cmpop] at e
  cases q : isD x y with
  | none => rw [q] at e; cases e
  | some k =>
    rw [q] at e
    cases e
    rcases isD_cases q with ⟨a, b, rfl, rfl, rfl⟩ | ⟨rfl, hk⟩
    · exact .inl ⟨a, b, Rep.bl_inv rx, Rep.bl_inv ry, z.bl gr⟩
    · refine .inr ⟨Rep.non_inv ry, ?_⟩
      rw [rx.non_iff, ← hk]
      exact z.bl gr
/-! ### in -/
theorem any_eq {n : Nat} {y : D} (hy : eqN 60 y = true) : ∀ ds : List D, ds.all (eqN n) = true → ((toPys ds).any fun z => PyData.eqv z (toPy y)) = ds.any fun z => eqD z y
  | [], _ => rfl
  | d :: r, h => by
    rw [List.all_cons, Bool.and_eq_true] at h
    show (PyData.eqv (toPy d) (toPy y) || (toPys r).any fun z => PyData.eqv z (toPy y)) = (eqD d y || r.any fun z => eqD z y)
    rw [eqN_eqv n d y 60 h.1 hy, any_eq hy r h.2]
def rInT (K : PySem.W.Frag) (neg : Bool) : R2 := fun x y H Q => ∃ d ds, Dp K H x d ∧ Dp K H y (.tuple ds) ∧ SeqAt.shaped d = true ∧ SeqAt.shaped (.tuple ds) = true ∧ Q (.bl (if neg then !(ds.any fun z => PyData.eqv z d) else ds.any fun z => PyData.eqv z d)) H
theorem op_inT (hu : X.A.units + 65 < cLine) : OpR X (compareOp .In) (rInT X.K false) := by
  intro pins s σ H x y v u Q I rx ry h
  obtain ⟨d, ds, hd, he, sd, se, q⟩ := h
  obtain ⟨as, r1⟩ := Dp.reads I d x v hd rx
  obtain ⟨bs, r2⟩ := Dp.reads I (.tuple ds) y u he ry
  exact SeqAt.in_tuple_reads r2 r1 (SeqAt.canLay_of_shaped se) (SeqAt.canLay_of_shaped sd) (room_in_shaped sd hu) ⟨.bl _, H, I, rfl, q⟩
theorem op_notInT (hu : X.A.units + 65 < cLine) : OpR X (compareOp .NotIn) (rInT X.K true) := by
  intro pins s σ H x y v u Q I rx ry h
  obtain ⟨d, ds, hd, he, sd, se, q⟩ := h
  obtain ⟨as, r1⟩ := Dp.reads I d x v hd rx
  obtain ⟨bs, r2⟩ := Dp.reads I (.tuple ds) y u he ry
  exact SeqAt.notIn_tuple_reads r2 r1 (SeqAt.canLay_of_shaped se) (SeqAt.canLay_of_shaped sd) (room_in_shaped sd hu) ⟨.bl _, H, I, rfl, q⟩
def rInD' (K : PySem.W.Frag) (neg : Bool) : R2 := fun x y H Q => ∃ d ds, Dp K H x d ∧ Dp K H y (.list ds) ∧ SeqAt.shaped d = true ∧ SeqAt.shaped (.list ds) = true ∧ Q (.bl (if neg then !(ds.any fun z => PyData.eqv z d) else ds.any fun z => PyData.eqv z d)) H
def rInC (neg : Bool) : R2 := fun x y H Q => ∃ (c : Nat) (z : Str), x = .str ⟨#[c]⟩ ∧ y = .str z ∧ Q (.bl (if neg then !decide (c ∈ z.cps.toList) else decide (c ∈ z.cps.toList))) H
def rInAll (K : PySem.W.Frag) (neg : Bool) : R2 := fun x y H Q => (rInT K neg x y H Q ∨ rInD' K neg x y H Q) ∨ rInC neg x y H Q
theorem r_in (hu : X.A.units + 65 < cLine) : OpR X (compareOp .In) (rInAll X.K false) :=
  ((op_inT hu).or (OpR.imp (op_inD hu) fun x y H Q h => h)).or (OpR.imp op_in_sign fun x y H Q h => h)
theorem r_notin (hu : X.A.units + 65 < cLine) : OpR X (compareOp .NotIn) (rInAll X.K true) :=
  ((op_notInT hu).or (OpR.imp (op_notInD hu) fun x y H Q h => h)).or (OpR.imp op_notIn_sign fun x y H Q h => h)
theorem o_in (hK : X.K = W.K) {neg : Bool} : Op2 W g Ω .rep (rInAll X.K neg) fun x y => (isinD x y).map fun b => .bl (if neg then !b else b) := by
  intro σ H env F st x y d v u Q gr rx ry e z
  have e : (isinD x y).map (fun b => D.bl (if neg then !b else b)) = some d := e
  cases q : isinD x y with
  | none => rw [q] at e; cases e
  | some k =>
    rw [q] at e
    cases e
    have fin : ∀ k', k' = k → Q (.bl (if neg then !k' else k')) H := fun k' h => by rw [h]; exact z.bl gr
    cases y with
    | lst ds =>
      simp only [isinD] at q
      split at q
      · rename_i c
        rw [Bool.and_eq_true] at c
        cases q
        have cl : eqN 60 (.lst ds) = true := c.2
        exact .inl (.inr ⟨toPy x, toPys ds, hK ▸ rc_dp gr.sub c.1 rx, hK ▸ rc_dp gr.sub cl ry, eqN_shaped c.1 (by decide), eqN_shaped cl (by decide), fin _ (any_eq c.1 ds c.2)⟩)
      · cases q
    | tup ds =>
      simp only [isinD] at q
      split at q
      · rename_i c
        rw [Bool.and_eq_true] at c
        cases q
        have cl : eqN 60 (.tup ds) = true := c.2
        exact .inl (.inl ⟨toPy x, toPys ds, hK ▸ rc_dp gr.sub c.1 rx, hK ▸ rc_dp gr.sub cl ry, eqN_shaped c.1 (by decide), eqN_shaped cl (by decide), fin _ (any_eq c.1 ds c.2)⟩)
      · cases q
    | str s =>
      cases x with
      | str c =>
        simp only [isinD] at q
        obtain ⟨⟨l⟩⟩ := c
        cases l with
        | nil => cases q
        | cons n r =>
          cases r with
          | nil => cases q; exact .inr ⟨n, s, Rep.str_inv rx, Rep.str_inv ry, fin _ rfl⟩
          | cons _ _ => cases q
      | _ => cases q
    | dK kvs => exact (by cases q)
    | dT kvs => exact (by cases q)
    | _ => cases q

/-! ### arithmetic -/
def opI (c : Int → Int → Bool) (f : Int → Int → Int) : D → D → Option D
  | .int i, .int j => if c i j then some (.int (f i j)) else none
  | _, _ => none
theorem o_int {C : Int → Int → Prop} {c : Int → Int → Bool} {f : Int → Int → Int} (hc : ∀ i j, c i j = true → C i j) : Op2 W g Ω .own (rI C fun i j => .int (f i j)) (opI c f) := by
  intro σ H env F st x y d v u Q gr rx ry e z
  cases x <;> cases y <;> try cases e
  rename_i i j
  simp only [opI] at e
  split at e
  · rename_i h
    cases e
    exact ⟨i, j, Rep.int_inv rx, Rep.int_inv ry, hc _ _ h, z _ H F gr (Fx.refl H F) (Rep.int _)⟩
  · cases e
def catL : D → D → Option D
  | .lst a, .lst b => if a.length + b.length ≤ 1000000 then some (.lst (a ++ b)) else none
  | _, _ => none
theorem o_cat : Op2 W g Ω .own rCat catL := by
  intro σ H env F st x y d v u Q gr rx ry e z
  cases x <;> cases y <;> try cases e
  rename_i a b
  simp only [catL] at e
  split at e
  · rename_i h
    cases e
    obtain ⟨l, xs, rfl, h1, r1⟩ := rx
    obtain ⟨l', ys, rfl, h2, r2⟩ := ry
    refine ⟨l, l', xs, ys, rfl, rfl, h1, h2, by rw [r1.length, r2.length, sizeLine_eq]; omega, fun p hp => ?_⟩
    exact z _ _ _ (gr.alloc hp) (Fx.alloc hp) ⟨p, _, rfl, L2.upd_same, gr.free hp, hp, r1.append r2⟩
  · cases e
def catT : D → D → Option D
  | .tup a, .tup b => if a.length + b.length ≤ 1000000 then some (.tup (a ++ b)) else none
  | _, _ => none
theorem o_catT (hK : X.K = W.K) : Op2 W g Ω .own (rCatA X.K) catT := by
  intro σ H env F st x y d v u Q gr rx ry e z
  cases x <;> cases y <;> try cases e
  rename_i a b
  simp only [catT] at e
  split at e
  · rename_i h
    cases e
    obtain ⟨l, xs, rfl, h1, r1⟩ := Rep.tup_inv rx
    obtain ⟨l', ys, rfl, h2, r2⟩ := Rep.tup_inv ry
    refine ⟨l, l', xs, ys, rfl, rfl, hK ▸ gr.sub.sqT h1, hK ▸ gr.sub.sqT h2, by rw [r1.length, r2.length, sizeLine_eq]; omega, fun e => ?_, fun _ e => ?_, fun _ _ p hp => ?_⟩
    · subst e
      cases r1
      exact z _ H F gr (Fx.refl H F) ry
    · subst e
      cases r2
      rw [List.append_nil] at z
      exact z _ H F gr (Fx.refl H F) rx
    · exact z _ _ _ (gr.allocK (o := .tup (xs ++ ys)) hp) (Fx.allocK (gr.free hp) hp) (Rep.tup (SqT.of L2.upd_same) ((r1.append r2).mono (Fx.allocK (o := .tup (xs ++ ys)) (gr.free hp) hp).le))
  · cases e
def catS : D → D → Option D
  | .str a, .str b => if a.length + b.length ≤ 1000000 then some (.str (a ++ b)) else none
  | _, _ => none
theorem o_catS : Op2 W g Ω .own (fun x y H Q => ∃ i j, x = .str i ∧ y = .str j ∧ i.length + j.length ≤ sizeLine ∧ Q (.str (i ++ j)) H) catS := by
  intro σ H env F st x y d v u Q gr rx ry e z
  cases x <;> cases y <;> try cases e
  rename_i a b
  simp only [catS] at e
  split at e
  · rename_i h
    cases e
    exact ⟨a, b, Rep.str_inv rx, Rep.str_inv ry, by rw [sizeLine_eq]; omega, z _ H F gr (Fx.refl H F) (Rep.str _)⟩
  · cases e
theorem reps_rep {F : Hp} {vs : List V} {ds : List D} (h : Reps W F vs ds) : ∀ n : Nat, Reps W F (List.replicate n vs).flatten (List.replicate n ds).flatten
  | 0 => .nil
  | n + 1 => by
    rw [List.replicate_succ, List.replicate_succ, List.flatten_cons, List.flatten_cons]
    exact h.append (reps_rep h n)
def repL : D → D → Option D
  | .lst a, .int k => if a.length * k.toNat ≤ 1000000 && decide (k ≤ 1000000) && decide (-1000000 ≤ k) then some (.lst (List.replicate k.toNat a).flatten) else none
  | _, _ => none
theorem o_repL : Op2 W g Ω .own rRep repL := by
  intro σ H env F st x y d v u Q gr rx ry e z
  cases x <;> cases y <;> try cases e
  rename_i a k
  simp only [repL] at e
  split at e
  · rename_i h
    simp only [Bool.and_eq_true, decide_eq_true_eq] at h
    cases e
    obtain ⟨l, xs, rfl, h1, r1⟩ := rx
    refine ⟨l, k, xs, rfl, Rep.int_inv ry, h1, by omega, by omega, by rw [r1.length, sizeLine_eq]; omega, fun p hp => ?_⟩
    exact z _ _ _ (gr.alloc hp) (Fx.alloc hp) ⟨p, _, rfl, L2.upd_same, gr.free hp, hp, reps_rep r1 _⟩
  · cases e
def repT : D → D → Option D
  | .tup a, .int k => if decide (k ≤ 1000) && (!a.isEmpty) && decide (a.length ≤ 1000) && decide (2 ≤ k) then some (.tup (List.replicate k.toNat a).flatten) else none
  | _, _ => none
theorem o_repT (hK : X.K = W.K) : Op2 W g Ω .own (rRepT X.K) repT := by
  intro σ H env F st x y d v u Q gr rx ry e z
  cases x <;> cases y <;> try cases e
  rename_i a k
  simp only [repT] at e
  split at e
  · rename_i h
    simp only [Bool.and_eq_true, decide_eq_true_eq, Bool.not_eq_true'] at h
    cases e
    obtain ⟨l, xs, rfl, h1, r1⟩ := Rep.tup_inv rx
    refine ⟨l, k, xs, rfl, Rep.int_inv ry, hK ▸ gr.sub.sqT h1, ?_, h.2, h.1.1.1, by rw [r1.length]; exact h.1.2, fun p hp => ?_⟩
    · intro e
      subst e
      cases r1
      simp at h
    · exact z _ _ _ (gr.allocK (o := .tup _) hp) (Fx.allocK (gr.free hp) hp) (Rep.tup (SqT.of L2.upd_same) ((reps_rep r1 _).mono (Fx.allocK (o := .tup (List.replicate k.toNat xs).flatten) (gr.free hp) hp).le))
  · cases e
abbrev rAdd_ (K : PySem.W.Frag) : R2 := fun x y H Q => (rI (fun _ _ => True) (fun i j => .int (i + j)) x y H Q ∨ rCat x y H Q) ∨ (rCatA K x y H Q ∨ ∃ i j, x = .str i ∧ y = .str j ∧ i.length + j.length ≤ sizeLine ∧ Q (.str (i ++ j)) H)
theorem r_add : OpR X (binaryOp .Add) (rAdd_ X.K) := ((OpR.imp op_add fun x y H Q ⟨i, j, a, b, _, c⟩ => ⟨i, j, a, b, c⟩).or op_cat).or (op_catA.or op_add_str)
theorem o_add (hK : X.K = W.K) : Op2 W g Ω .own (rAdd_ X.K) (binop .add) := by
  refine Op2.or (op1 := fun x y => match opI (fun _ _ => true) (fun i j => i + j) x y with | some d => some d | none => catL x y) (op2 := fun x y => match catT x y with | some d => some d | none => catS x y) (Op2.or (op1 := opI (fun _ _ => true) (fun i j => i + j)) (o_int (C := fun _ _ => True) (f := fun i j => i + j) fun _ _ _ => trivial) o_cat fun x y d e => ?_) (Op2.or (o_catT hK) o_catS fun x y d e => ?_) fun x y d e => ?_
  · split at e
    · cases e; left; assumption
    · right; exact e
  · split at e
    · cases e; left; assumption
    · right; exact e
  · cases x <;> cases y <;> first | (cases e; done) | (left; exact e) | (right; simp only [catT, catS]; exact e) | skip
    right
    simp only [binop] at e
    simp only [catT]
    split at e
    · cases e; rename_i h; rw [if_pos h]
    · cases e
theorem sizeOk_c {i j : Int} (h : sizeOk i j = true) : CMulW i j := by have h' : i.natAbs.log2 + j.natAbs.log2 < 1000000 := of_decide_eq_true h; exact h'
/-- a text times an int -/
def rRepS : R2 := fun x y H Q => ∃ s k, x = .str s ∧ y = .int k ∧ ((decide (-1000 ≤ k) && decide (k ≤ 1000)) && decide (s.length ≤ 1000)) = true ∧ Q (.str (Txt.mul s k)) H
theorem mulOk_of {s : Str} {k : Int} (h : ((decide (-1000 ≤ k) && decide (k ≤ 1000)) && decide (s.length ≤ 1000)) = true) : MulOk s k := by
  simp only [Bool.and_eq_true, decide_eq_true_eq] at h
  obtain ⟨⟨h1, h2⟩, h3⟩ := h
  refine ⟨?_, fun h4 _ h5 => ?_, fun h4 _ => ?_⟩
  · rw [Bool.or_eq_false_iff]
    exact ⟨decide_eq_false (by omega), decide_eq_false (by omega)⟩
  · have h6 : (2 ^ 63 - 1 : Int) / 1000 ≤ (2 ^ 63 - 1) / k := by
      rw [Int.le_ediv_iff_mul_le (by omega)]
      have : (2 ^ 63 - 1 : Int) / 1000 * k ≤ (2 ^ 63 - 1 : Int) / 1000 * 1000 := Int.mul_le_mul_of_nonneg_left h2 (by decide)
      omega
    have h7 : (s.length : Int) ≤ 1000 := by exact_mod_cast h3
    omega
  · show decide (s.length * k.toNat > sizeLine) = false
    refine decide_eq_false fun z => ?_
    have h6 : s.length * k.toNat ≤ 1000 * 1000 := Nat.mul_le_mul h3 (by omega)
    rw [sizeLine_eq] at z
    omega
theorem op_repS : OpR X (binaryOp .Mult) rRepS := by
  intro pins s σ H x y v u Q I rx ry h
  obtain ⟨z, k, rfl, rfl, h1, q⟩ := h
  obtain ⟨t, rfl⟩ := rx
  obtain ⟨t2, rfl⟩ := ry
  exact SB.mul (mulOk_of h1) fun t' k' => ⟨.str _, H, I.tok _, ⟨_, rfl⟩, q⟩
def repS : D → D → Option D
  | .str a, .int k => if (decide (-1000 ≤ k) && decide (k ≤ 1000)) && decide (a.length ≤ 1000) then some (.str (Txt.mul a k)) else none
  | _, _ => none
theorem o_repS : Op2 W g Ω .own rRepS repS := by
  intro σ H env F st x y d v u Q gr rx ry e z
  cases x <;> cases y <;> try cases e
  rename_i a k
  simp only [repS] at e
  split at e
  · rename_i h
    cases e
    exact ⟨a, k, Rep.str_inv rx, Rep.int_inv ry, h, z _ H F gr (Fx.refl H F) (Rep.str _)⟩
  · cases e
abbrev rMul_ (K : PySem.W.Frag) : R2 := fun x y H Q => (rI CMulW (fun i j => .int (i * j)) x y H Q ∨ rRep x y H Q) ∨ (rRepT K x y H Q ∨ rRepS x y H Q)
theorem r_mul : OpR X (binaryOp .Mult) (rMul_ X.K) := (op_mulW.or op_rep).or (op_repT.or op_repS)
theorem o_mul (hK : X.K = W.K) : Op2 W g Ω .own (rMul_ X.K) (binop .mul) := by
  refine Op2.or (op1 := fun x y => match opI sizeOk (fun i j => i * j) x y with | some d => some d | none => repL x y) (op2 := fun x y => match repT x y with | some d => some d | none => repS x y)
    (Op2.or (op1 := opI sizeOk (fun i j => i * j)) (o_int (C := CMulW) (f := fun i j => i * j) fun i j h => sizeOk_c h) o_repL fun x y d e => ?_) (Op2.or (o_repT hK) o_repS fun x y d e => ?_) fun x y d e => ?_
  · split at e
    · cases e; left; assumption
    · right; exact e
  · split at e
    · cases e; left; assumption
    · right; exact e
  · cases x <;> cases y <;> first | (cases e; done) | (right; simp only [repT, repS]; exact e) | (left; exact e) | skip
    · left
      simp only [binop] at e
      simp only [opI]
      split at e
      · cases e; rename_i h; rw [if_pos h]
      · cases e
    · right
      simp only [binop] at e
      simp only [repT]
      split at e
      · cases e; rename_i h; rw [if_pos h]
      · cases e
theorem o_sub : Op2 W g Ω .own (rI (fun _ _ => True) fun i j => .int (i - j)) (binop .sub) := by
  intro σ H env F st x y d v u Q gr rx ry e z
  refine o_int (W := W) (g := g) (Ω := Ω) (c := fun _ _ => true) (C := fun _ _ => True) (fun _ _ _ => trivial) σ H env F st x y d v u Q gr rx ry ?_ z
  cases x <;> cases y <;> first | (cases e; done) | exact e
theorem r_sub : OpR X (binaryOp .Sub) (rI (fun _ _ => True) fun i j => .int (i - j)) := OpR.imp op_sub fun x y H Q ⟨i, j, a, b, _, c⟩ => ⟨i, j, a, b, c⟩
/-- // by a divisor that is not 0, below 2 ^ 9000 -/
def CDivX (_ j : Int) : Prop := j ≠ 0 ∧ j.natAbs.log2 < 9000
theorem op_fdivX : OpR X (binaryOp .FloorDiv) (rI CDivX fun i j => .int (i.fdiv j)) := L2.opI fun i j _ _ _ _ _ hc q => floordiv_int hc.1 q (.inl (PyProof.noPylong_of_log2 hc.2))
theorem o_fdiv : Op2 W g Ω .own (rI CDivX fun i j => .int (i.fdiv j)) (binop .fdiv) := by
  intro σ H env F st x y d v u Q gr rx ry e z
  refine o_int (W := W) (g := g) (Ω := Ω) (f := fun i j => i.fdiv j) (c := fun i j => decide (j ≠ 0 ∧ j.natAbs.log2 < 9000)) (C := CDivX) (fun _ _ h => by have h' := of_decide_eq_true h; exact h') σ H env F st x y d v u Q gr rx ry ?_ z
  cases x <;> cases y <;> first | (cases e; done) | skip
  simp only [binop] at e
  simp only [Ev.opI, decide_eq_true_eq]
  exact e
theorem o_mod : Op2 W g Ω .own (rI (fun _ j => 0 < j) fun i j => .int (i % j)) (binop .mod) := by
  intro σ H env F st x y d v u Q gr rx ry e z
  refine o_int (W := W) (g := g) (Ω := Ω) (c := fun i j => decide (0 < j)) (C := fun _ j => 0 < j) (fun _ _ h => of_decide_eq_true h) σ H env F st x y d v u Q gr rx ry ?_ z
  cases x <;> cases y <;> first | (cases e; done) | skip
  simp only [binop] at e
  simp only [opI, decide_eq_true_eq]
  exact e
theorem o_pow : Op2 W g Ω .own (rI CPow fun i j => .int (i ^ j.toNat)) (binop .pow) := by
  intro σ H env F st x y d v u Q gr rx ry e z
  refine o_int (W := W) (g := g) (Ω := Ω) (c := fun i j => 0 ≤ j && decide (j ≤ 1000000) && decide (i.natAbs < 2 ^ 64)) (C := CPow) (fun _ _ h => by simp only [Bool.and_eq_true, decide_eq_true_eq] at h; exact ⟨h.1.1, h.1.2, h.2⟩) σ H env F st x y d v u Q gr rx ry ?_ z
  cases x <;> cases y <;> first | (cases e; done) | skip
  simp only [binop] at e
  simp only [opI]
  exact e
end
end Ev
/-! Ev6: items, slices, built-in functions. -/
namespace Ev
open PySem PySem.Spec PyProof.Rows L2
section
variable {W : Wd} {X : Cx} {g : Gh} {Ω : Nat → Bool} {m : Md} {e a b : Expr} {f fa fb : Fe} {pos p1 p2 : Pos}
theorem plainIx_of (h : ∀ l u s p, b ≠ .Slice l u s p) : PlainIx b := by
  intro o i
  cases b <;> first | rfl | exact absurd rfl (h _ _ _ _)
theorem atI_get {vs : List V} {ds : List D} {F : Hp} {i : Int} {d : D} (r : Reps W F vs ds) (e : atI ds i = some d) : ∃ v, atI vs i = some v ∧ Rep W F v d := by
  unfold atI at e ⊢
  rw [r.length]
  cases q : L2.ixN ds.length i with
  | none => rw [q] at e; cases e
  | some j =>
    rw [q] at e
    exact r.get e
theorem o_ix (hK : X.K = W.K) : Op2 W g Ω .rep (rIx X.K) ixop := by
  intro σ H env F st x y d v u Q gr rx ry e z
  cases x <;> cases y <;> first | (cases e; done) | skip
  · rename_i s i
    simp only [ixop] at e
    split at e
    · rename_i h
      cases q : atI s.cps.toList i with
      | none => rw [q] at e; cases e
      | some c =>
        rw [q] at e
        cases e
        exact .inr (.inr ⟨s, i, c, Rep.str_inv rx, Rep.int_inv ry, by rw [sizeLine_eq]; omega, q, z.str gr⟩)
    · cases e
  · rename_i ds i
    obtain ⟨p, vs, rfl, h1, r⟩ := Rep.tup_inv rx
    obtain ⟨w, h2, r2⟩ := atI_get r e
    exact .inr (.inl ⟨p, vs, i, w, rfl, Rep.int_inv ry, hK ▸ gr.sub.sqT h1, h2, z _ H F gr (Fx.refl H F) r2⟩)
  · rename_i ds i
    obtain ⟨p, vs, rfl, h1, r⟩ := rx
    obtain ⟨w, h2, r2⟩ := atI_get r e
    exact .inl ⟨p, vs, i, w, rfl, Rep.int_inv ry, SqL.of h1, h2, z _ H F gr (Fx.refl H F) r2⟩
theorem se_ix (hK : X.K = W.K) (ha : SE W X g Ω .bor a fa) (hb : SE W X g Ω .bor b fb) (hs : ∀ l u s p, b ≠ .Slice l u s p) :
    SE W X g Ω .rep (.Subscript a b pos) fun env st => (fa env st).bind fun x st => (fb env st).bind fun y st => ofO (ixop x y) st :=
  PE.imp (pe_ix ix_seq ha hb (plainIx_of hs)) fun σ H Q z => tE_op2 (o_ix hK) z

/-! ### slices -/
/-- a part of a slice: what it is -/
def tP (W : Wd) (g : Gh) (Ω : Nat → Bool) (f : Fs) : TO := fun σ H Q => ∃ env F st, GR W g Ω σ H env F st ∧
  Wn (fun ds st' => ∃ o, partD ds = some o ∧ ∀ H' F', GR W g Ω σ H' env F' st' → Fx H F H' F' → Q o H') (Lets W g) (f env st)
def SO (W : Wd) (X : Cx) (g : Gh) (Ω : Nat → Bool) (e : Option Expr) (f : Fs) : Prop := PO X e (tP W g Ω f)
theorem PO.imp {o : Option Expr} {t t' : TO} (h : PO X o t) (i : ∀ σ H Q, t' σ H Q → t σ H Q) : PO X o t' := ⟨fun pins s σ H Q I q => h.run pins s σ H Q I (i σ H Q q)⟩
theorem so_none : SO W X g Ω none fun _ st => .ok [] st := PO.imp po_none fun σ H Q ⟨env, F, st, gr, o, e, z⟩ => by
  cases e
  exact z H F gr (Fx.refl H F)
theorem so_some (h : SE W X g Ω .rep e f) : SO W X g Ω (some e) fun env st => (f env st).bind fun d st => .ok [d] st := PO.imp (po_some h) fun σ H Q ⟨env, F, st, gr, z⟩ =>
  ⟨env, F, st, gr, z.bind.mono fun d st1 ⟨o, e, z⟩ v H' F' g' fx l => by
    cases d with
    | int i => cases e; exact ⟨i, Rep.int_inv l, z H' F' g' fx⟩
    | _ => cases e⟩
theorem cutV_reps {vs : List V} {ds : List D} {F : Hp} {lo hi : Option Int} (r : Reps W F vs ds) : Reps W F (cutV vs lo hi) (cutL ds lo hi) := by
  unfold cutV cutL
  rw [r.length]
  exact (r.drop _).take _
theorem r_sl : SlR X (fun x lo hi H Q => (rSlL X.K x lo hi H Q ∨ rSlA X.K x lo hi H Q) ∨ rSlS x lo hi H Q) := (sl_list.or sl_tupA).or sl_str
theorem se_slc (hK : X.K = W.K) {lo hi : Option Expr} {fl fh : Fs} (ha : SE W X g Ω .bor a fa) (hl : SO W X g Ω lo fl) (hh : SO W X g Ω hi fh) :
    SE W X g Ω .own (.Subscript a (.Slice lo hi none p2) pos) fun env st => (fa env st).bind fun x st => (fl env st).bind fun l st => (ofO (partD l) st).bind fun l st => (fh env st).bind fun h st => (ofO (partD h) st).bind fun h st => ofO (slop l h x) st :=
  PE.imp (pe_slice r_sl ha hl hh) fun σ H Q ⟨env, F, st, gr, z⟩ => ⟨env, F, st, gr, z.bind.mono fun x st1 z v H1 F1 g1 fx1 l1 => ⟨env, F1, st1, g1, z.bind.mono fun l st2 z => by
    obtain ⟨lo', el, z⟩ := Wn.ofO z.bind
    refine ⟨lo', el, fun H2 F2 g2 fx2 => ⟨env, F2, st2, g2, z.bind.mono fun h st3 z => ?_⟩⟩
    obtain ⟨hi', eh, z⟩ := Wn.ofO z.bind
    refine ⟨hi', eh, fun H3 F3 g3 fx3 => ?_⟩
    obtain ⟨d, q, z⟩ := Wn.ofO z
    have fx := (fx1.trans fx2).trans fx3
    have rc := g3.cur (Bor.mono l1 (fx2.trans fx3).le)
    have z := z.after fx
    cases x with
    | lst ds =>
      cases q
      obtain ⟨p, vs, rfl, h1, r⟩ := rc
      exact .inl (.inl ⟨p, vs, rfl, SqL.of h1, fun q hq => z _ _ _ (g3.alloc hq) (Fx.alloc hq) ⟨q, _, rfl, L2.upd_same, g3.free hq, hq, cutV_reps r⟩⟩)
    | tup ds =>
      cases q
      obtain ⟨p, vs, rfl, h1, r⟩ := Rep.tup_inv rc
      refine .inl (.inr ⟨p, vs, rfl, hK ▸ g3.sub.sqT h1, fun ⟨e1, e2⟩ => ?_, fun _ q hq => z _ _ _ (g3.allocK (o := .tup _) hq) (Fx.allocK (g3.free hq) hq) (Rep.tup (SqT.of L2.upd_same) ((cutV_reps r).mono (Fx.allocK (o := .tup (cutV vs lo' hi')) (g3.free hq) hq).le))⟩)
      have e3 : cutL ds lo' hi' = ds := by
        unfold cutL
        rw [← r.length, e1, e2, List.drop_zero, Nat.sub_zero, List.take_of_length_le (by rw [r.length]; exact Nat.le_refl _)]
      rw [e3] at z
      exact z _ H3 F3 g3 (Fx.refl H3 F3) rc
    | str s =>
      simp only [slop] at q
      split at q
      · rename_i h
        cases q
        exact .inr ⟨s, Rep.str_inv rc, by rw [sizeLine_eq]; omega, z _ H3 F3 g3 (Fx.refl H3 F3) (Rep.str _)⟩
      · cases q
    | _ => cases q⟩⟩

/-! ### built-in functions of one argument -/
theorem CallR.imp {u : Value} {r r' : List V → Hp → VK → Prop} (h : CallR X u r) (i : ∀ xs H Q, r' xs H Q → r xs H Q) : CallR X u r' := fun pins s σ H xs us Q I rx q => h pins s σ H xs us Q I rx (i _ _ _ q)
theorem sa_one (ha : SE W X g Ω .bor a fa) (hs : starEach [a] X.env = (false, eval a X.env) :: starEach [] X.env) : PA X [a] (tCons (tE W g Ω .bor fa) tNil) := pa_cons ha pa_nil hs
theorem se_cb {x : Str} {id : String} {r : List V → Hp → VK → Prop} {o : D → Option D} (hc : CallR X (.builtin id) r) (hg : Gl X x) (hm : X.mg x = none) (hv : bootBuiltins x = some (.builtin id)) (ho : Op1 W g Ω m (fun v H Q => r [v] H Q) o) (ha : SE W X g Ω .bor a fa)
    (hs : starEach [a] X.env = (false, eval a X.env) :: starEach [] X.env) (hn : x ≠ "__name__") (hdb : (x == ("__debug__" : Str)) = false) :
    SE W X g Ω m (.Call (.Name x p1) [a] [] pos) fun env st => (fa env st).bind fun x st => ofO (o x) st :=
  PE.imp (pe_callB hc hg hm hv (sa_one ha hs) hn hdb hs (by rfl)) fun σ H Q z => tE_op1 ho z
theorem se_ct {x : Str} {T : String} {r : List V → Hp → VK → Prop} {o : D → Option D} (hc : CallR X (.type T) r) (hg : Gl X x) (hm : X.mg x = none) (hv : bootBuiltins x = some (.type T)) (ho : Op1 W g Ω m (fun v H Q => r [v] H Q) o) (ha : SE W X g Ω .bor a fa)
    (hs : starEach [a] X.env = (false, eval a X.env) :: starEach [] X.env) (hn : x ≠ "__name__") (hdb : (x == ("__debug__" : Str)) = false) :
    SE W X g Ω m (.Call (.Name x p1) [a] [] pos) fun env st => (fa env st).bind fun x st => ofO (o x) st :=
  PE.imp (pe_callTy hc hg hm hv (sa_one ha hs) hn hdb hs (by rfl)) fun σ H Q z => tE_op1 ho z
theorem o_len (hK : X.K = W.K) : Op1 W g Ω .rep (fun v H Q => ∃ x n, [v] = [x] ∧ LenV X.K x H n ∧ Q (.int n) H) (b1op .len) := by
  intro σ H env F st x d v Q gr rx e z
  simp only [b1op] at e
  cases x with
  | tup ds =>
    cases e
    obtain ⟨p, vs, rfl, h1, r⟩ := Rep.tup_inv rx
    exact ⟨_, ds.length, rfl, .inr ⟨vs, hK ▸ gr.sub.sqT h1, r.length.symm⟩, z.int gr⟩
  | lst ds =>
    cases e
    obtain ⟨p, vs, rfl, h1, r⟩ := rx
    exact ⟨_, ds.length, rfl, .inl ⟨vs, SqL.of h1, r.length.symm⟩, z.int gr⟩
  | str s =>
    simp only [lenD] at e
    split at e
    · rename_i h
      cases e
      exact ⟨_, s.length, rfl, by rw [Rep.str_inv rx]; exact ⟨by rw [sizeLine_eq]; omega, rfl⟩, z.int gr⟩
    · cases e
  | scr ns =>
    cases e
    cases rx with
    | scr h1 => exact ⟨_, ns.length, rfl, .inl ⟨_, hK ▸ gr.sub.sqL h1, by rw [List.length_map]⟩, z.int gr⟩
  | _ => cases e
theorem o_abs : Op1 W g Ω .rep (fun v H Q => ∃ i, [v] = [.int i] ∧ Q (.int (if i < 0 then -i else i)) H) (b1op .abs) := by
  intro σ H env F st x d v Q gr rx e z
  cases x with
  | int i =>
    cases e
    refine ⟨i, by rw [Rep.int_inv rx], ?_⟩
    have q : (if i < 0 then -i else i) = (i.natAbs : Int) := by split <;> omega
    rw [q]
    exact z.int gr
  | _ => cases e
theorem o_int1 : Op1 W g Ω .rep (fun v H Q => (∃ i, [v] = [.int i] ∧ Q (.int i) H) ∨ ∃ k, [v] = [.bl k] ∧ Q (.int (if k then 1 else 0)) H) (b1op .int) := by
  intro σ H env F st x d v Q gr rx e z
  cases x with
  | int i => cases e; exact .inl ⟨i, by rw [Rep.int_inv rx], z.int gr⟩
  | _ => cases e
theorem asBs_reps {F : Hp} : ∀ {ds : List D} {bs : List Bool} {vs : List V}, asBs ds = some bs → Reps W F vs ds → vs = bs.map V.bl
  | [], bs, vs, e, r => by cases e; cases r; rfl
  | d :: ds, bs, vs, e, r => by
    cases r with
    | cons h t =>
      rename_i v vs
      unfold asBs at e
      cases q : asBs ds with
      | none => rw [q] at e; cases d <;> cases e
      | some bs' =>
        rw [q] at e
        cases d with
        | bl b => cases e; rw [Rep.bl_inv h, asBs_reps q t]; rfl
        | _ => cases e
theorem asIs_reps {F : Hp} : ∀ {ds : List D} {bs : List Int} {vs : List V}, asIs ds = some bs → Reps W F vs ds → vs = bs.map V.int
  | [], bs, vs, e, r => by cases e; cases r; rfl
  | d :: ds, bs, vs, e, r => by
    cases r with
    | cons h t =>
      rename_i v vs
      unfold asIs at e
      cases q : asIs ds with
      | none => rw [q] at e; cases d <;> cases e
      | some bs' =>
        rw [q] at e
        cases d with
        | int b => cases e; rw [Rep.int_inv h, asIs_reps q t]; rfl
        | _ => cases e
theorem asSs_reps {F : Hp} : ∀ {ds : List D} {bs : List Str} {vs : List V}, asSs ds = some bs → Reps W F vs ds → vs = bs.map V.str
  | [], bs, vs, e, r => by cases e; cases r; rfl
  | d :: ds, bs, vs, e, r => by
    cases r with
    | cons h t =>
      rename_i v vs
      unfold asSs at e
      cases q : asSs ds with
      | none => rw [q] at e; cases d <;> cases e
      | some bs' =>
        rw [q] at e
        cases d with
        | str b => cases e; rw [Rep.str_inv h, asSs_reps q t]; rfl
        | _ => cases e
theorem ints_reps {F : Hp} : ∀ ns : List Int, Reps W F (ns.map V.int) (ns.map D.int)
  | [] => .nil
  | n :: r => .cons (.int n) (ints_reps r)
theorem strs_reps {F : Hp} : ∀ ns : List Str, Reps W F (ns.map V.str) (ns.map D.str)
  | [] => .nil
  | n :: r => .cons (.str n) (strs_reps r)
theorem o_all : Op1 W g Ω .rep (fun v H Q => rAll X.K [v] H Q) (b1op .all) := by
  intro σ H env F st x d v Q gr rx e z
  cases x with
  | lst ds =>
    simp only [b1op] at e
    cases q : asBs ds with
    | none => rw [q] at e; cases e
    | some bs =>
      rw [q] at e
      cases e
      obtain ⟨p, vs, rfl, h1, r⟩ := rx
      rw [asBs_reps q r] at h1
      exact ⟨p, bs, rfl, SqL.of h1, z.bl gr⟩
  | _ => cases e
theorem o_any : Op1 W g Ω .rep (fun v H Q => rAny X.K [v] H Q) (b1op .any) := by
  intro σ H env F st x d v Q gr rx e z
  cases x with
  | lst ds =>
    simp only [b1op] at e
    cases q : asBs ds with
    | none => rw [q] at e; cases e
    | some bs =>
      rw [q] at e
      cases e
      obtain ⟨p, vs, rfl, h1, r⟩ := rx
      rw [asBs_reps q r] at h1
      exact ⟨p, bs, rfl, SqL.of h1, z.bl gr⟩
  | _ => cases e
theorem o_sum : Op1 W g Ω .rep (fun v H Q => rSum X.K [v] H Q) (b1op .sum) := by
  intro σ H env F st x d v Q gr rx e z
  cases x with
  | lst ds =>
    simp only [b1op] at e
    cases q : asIs ds with
    | none => rw [q] at e; cases e
    | some bs =>
      rw [q] at e
      cases e
      obtain ⟨p, vs, rfl, h1, r⟩ := rx
      rw [asIs_reps q r] at h1
      exact ⟨p, bs, rfl, SqL.of h1, z.int gr⟩
  | _ => cases e
theorem o_tuple (hK : X.K = W.K) : Op1 W g Ω .rep (fun v H Q => ∃ p ys, [v] = [.ref p] ∧ ((SqL X.K H p ys ∧ ∀ l, H l = none → Q (.ref l) (upd H l (.tup ys))) ∨ (SqT X.K H p ys ∧ Q (.ref p) H))) (b1op .tuple) := by
  intro σ H env F st x d v Q gr rx e z
  cases x with
  | lst ds =>
    cases e
    obtain ⟨p, vs, rfl, h1, r⟩ := rx
    exact ⟨p, vs, rfl, .inl ⟨SqL.of h1, fun q hq => z _ _ _ (gr.allocK (o := .tup vs) hq) (Fx.allocK (gr.free hq) hq) (Rep.tup (SqT.of L2.upd_same) (r.mono (Fx.allocK (o := .tup vs) (gr.free hq) hq).le))⟩⟩
  | tup ds =>
    cases e
    obtain ⟨p, vs, rfl, h1, r⟩ := Rep.tup_inv rx
    exact ⟨p, vs, rfl, .inr ⟨hK ▸ gr.sub.sqT h1, z _ H F gr (Fx.refl H F) rx⟩⟩
  | _ => cases e
def listOf : D → Option D
  | .lst ds => some (.lst ds)
  | .tup ds => some (.lst ds)
  | _ => none
theorem o_list (hK : X.K = W.K) : Op1 W g Ω .own (fun v H Q => ∃ p ys, [v] = [.ref p] ∧ (SqL X.K H p ys ∨ SqT X.K H p ys) ∧ ∀ l, H l = none → Q (.ref l) (upd H l (.lst ys))) listOf := by
  intro σ H env F st x d v Q gr rx e z
  cases x with
  | lst ds =>
    cases e
    obtain ⟨p, vs, rfl, h1, r⟩ := rx
    exact ⟨p, vs, rfl, .inl (SqL.of h1), fun q hq => z _ _ _ (gr.alloc hq) (Fx.alloc hq) ⟨q, _, rfl, L2.upd_same, gr.free hq, hq, r⟩⟩
  | tup ds =>
    cases e
    obtain ⟨p, vs, rfl, h1, r⟩ := Rep.tup_inv rx
    exact ⟨p, vs, rfl, .inr (hK ▸ gr.sub.sqT h1), fun q hq => z _ _ _ (gr.alloc hq) (Fx.alloc hq) ⟨q, _, rfl, L2.upd_same, gr.free hq, hq, r⟩⟩
  | _ => cases e
end
end Ev
/-! Ev7: stores, what is walked, comprehensions. -/
namespace Ev
open PySem PySem.Spec PyProof.Rows L2

theorem lk_st1 : ∀ (env : Env) (i j : Nat) (d : Option D), lk (st1 env i d) j = if j = i ∧ i < env.length then d else lk env j
  | [], i, j, d => by simp [st1, lk]
  | x :: r, 0, 0, d => by simp [st1, lk]
  | x :: r, 0, j + 1, d => by simp [st1, lk]
  | x :: r, i + 1, 0, d => by simp [st1, lk]
  | x :: r, i + 1, j + 1, d => by
    rw [st1, lk, lk, lk_st1 r i j d]
    simp
theorem st1_length : ∀ (env : Env) (i : Nat) (d : Option D), (st1 env i d).length = env.length
  | [], _, _ => rfl
  | _ :: _, 0, _ => rfl
  | _ :: r, i + 1, d => congrArg (· + 1) (st1_length r i d)
theorem lk_lt : ∀ {env : Env} {i : Nat} {d : D}, lk env i = some d → i < env.length
  | [], _, _, h => by cases h
  | _ :: _, 0, _, _ => Nat.succ_pos _
  | _ :: r, i + 1, d, h => Nat.succ_lt_succ (lk_lt (env := r) h)
theorem wipeE_length (env : Env) : ∀ vs : List Nat, (wipeE env vs).length = env.length
  | [] => rfl
  | v :: vs => by rw [wipeE, st1_length, wipeE_length env vs]
theorem lk_wipe {env : Env} {i : Nat} {d : D} : ∀ {vs : List Nat}, lk (wipeE env vs) i = some d → lk env i = some d ∧ i ∉ vs
  | [], h => ⟨h, by simp⟩
  | v :: vs, h => by
    rw [wipeE, lk_st1] at h
    split at h
    · cases h
    · rename_i hn
      obtain ⟨h1, h2⟩ := lk_wipe h
      refine ⟨h1, ?_⟩
      have hl := lk_lt h
      rw [wipeE_length] at hn hl
      intro z
      rcases List.mem_cons.mp z with e | z
      · exact hn ⟨e, e ▸ hl⟩
      · exact h2 z
theorem wipe_get {σ : L2.St} {i : Nat} : ∀ {vs : List Nat}, i ∉ vs → (wipe σ vs)[i]? = σ[i]?
  | [], _ => rfl
  | v :: vs, h => by
    rw [wipe, List.getElem?_set_ne (fun e => h (by rw [e]; exact List.mem_cons_self))]
    exact wipe_get fun z => h (List.mem_cons_of_mem _ z)

section
variable {W : Wd} {g : Gh} {Ω Ω' : Nat → Bool} {σ : L2.St} {H H' : Hp} {env : Env} {F F' : Hp} {st : DS} {p : Addr} {o : HO} {v : V} {d : D} {i : Nat}
/-- a value that is known for ever is stored -/
theorem GR.set (r : GR W g Ω σ H env F st) (h : Rep W F v d) (o : Ω i = false) : GR W g Ω (σ.set i (some v)) H (st1 env i (some d)) F st := by
  refine ⟨r.keep, r.sub, r.nmut, r.old, r.new, r.inv, r.m0, by rw [st1_length, List.length_set]; exact r.len, fun j e hj => ?_, fun j k w dj dk oj ok h1 h2 m1 m2 s1 s2 => ?_, r.tb⟩
  · rw [lk_st1] at hj
    split at hj
    · rename_i c
      cases hj
      refine ⟨v, ?_, ?_⟩
      · rw [c.1, List.getElem?_set_self (by rw [← r.len]; exact c.2)]
      · rw [c.1, o, if_neg (by decide)]; exact h
    · rename_i c
      obtain ⟨w, h1, h2⟩ := r.slot j e hj
      refine ⟨w, ?_, h2⟩
      rw [List.getElem?_set_ne (fun e => c ⟨e.symm, by rw [r.len, e]; exact (List.getElem?_eq_some_iff.mp h1).1⟩)]
      exact h1
  · have nj : j ≠ i := fun e => by rw [e, o] at oj; cases oj
    have nk : k ≠ i := fun e => by rw [e, o] at ok; cases ok
    rw [lk_st1, if_neg (fun z => nj z.1)] at h1
    rw [lk_st1, if_neg (fun z => nk z.1)] at h2
    rw [List.getElem?_set_ne (Ne.symm nj)] at s1
    rw [List.getElem?_set_ne (Ne.symm nk)] at s2
    exact r.sep j k w dj dk oj ok h1 h2 m1 m2 s1 s2
/-- some slots forgotten (those of a comprehension's own names) -/
theorem GR.wipe (r : GR W g Ω σ H env F st) (vs : List Nat) : GR W g (fun i => Ω i && !vs.contains i) (wipe σ vs) H (wipeE env vs) F st := by
  refine ⟨r.keep, r.sub, r.nmut, r.old, r.new, r.inv, r.m0, by rw [wipeE_length, wipe_length]; exact r.len, fun j e hj => ?_, fun j k w dj dk oj ok h1 h2 m1 m2 s1 s2 => ?_, r.tb⟩
  · obtain ⟨h1, h2⟩ := lk_wipe hj
    obtain ⟨w, e1, e2⟩ := r.slot j e h1
    refine ⟨w, by rw [wipe_get h2]; exact e1, ?_⟩
    have c : (Ω j && !vs.contains j) = Ω j := by
      have : vs.contains j = false := by simpa using h2
      rw [this]; simp
    show if (Ω j && !vs.contains j) = true then _ else _
    rw [c]
    exact e2
  · obtain ⟨a1, a2⟩ := lk_wipe h1
    obtain ⟨b1, b2⟩ := lk_wipe h2
    rw [wipe_get a2] at s1
    rw [wipe_get b2] at s2
    have oj : (Ω j && !vs.contains j) = true := oj
    have ok : (Ω k && !vs.contains k) = true := ok
    rw [Bool.and_eq_true] at oj ok
    exact r.sep j k w dj dk oj.1 ok.1 a1 b1 m1 m2 s1 s2
/-- the other way: H, F, st of a block's state, for the def's own slots -/
theorem GR.unwipe {σ2 : L2.St} {env2 : Env} {st2 : DS} (r : GR W g Ω σ H env F st) (r2 : GR W g Ω' σ2 H' env2 F' st2) (le : Le F F') (hΩ : ∀ i d, Ω i = true → lk env i = some d → isM d = true → (∃ j, Ω' j = true ∧ lk env2 j = some d ∧ σ2[j]? = σ[i]?)) : GR W g Ω σ H' env F' st2 := by
  refine ⟨r2.keep, r2.sub, r2.nmut, r2.old, r2.new, r2.inv, r.m0, r.len, fun j e hj => ?_, r.sep, r2.tb⟩
  obtain ⟨v, h1, h2⟩ := r.slot j e hj
  refine ⟨v, h1, ?_⟩
  split
  · rename_i oj
    rw [if_pos oj] at h2
    by_cases hm : isM e = true
    · obtain ⟨k, ok, hk, sk⟩ := hΩ j e oj hj hm
      obtain ⟨w, h3, h4⟩ := r2.slot k e hk
      rw [sk, h1] at h3
      cases h3
      rw [if_pos ok] at h4
      exact h4
    · cases e with
      | lst _ => exact absurd rfl hm
      | dK _ => exact absurd rfl hm
      | dT _ => exact absurd rfl hm
      | _ => exact Rep.mono le h2
  · rename_i oj
    rw [if_neg oj] at h2
    exact h2.mono le
end
def Gh.nox (g : Gh) : Gh := ⟨g.H0, g.F0, fun _ _ _ => False⟩
theorem GR.nox {W : Wd} {g : Gh} {Ω : Nat → Bool} {σ : L2.St} {H : Hp} {env : Env} {F : Hp} {st : DS} (r : GR W g Ω σ H env F st) : GR W g.nox Ω σ H env F st := ⟨r.keep, r.sub, r.nmut, r.old, r.new, r.inv, r.m0, r.len, r.slot, r.sep, r.tb⟩
theorem GR.unnox {W : Wd} {g : Gh} {Ω : Nat → Bool} {σ : L2.St} {H : Hp} {env : Env} {F : Hp} {st : DS} (r : GR W g.nox Ω σ H env F st) : GR W g Ω σ H env F st := ⟨r.keep, r.sub, r.nmut, r.old, r.new, r.inv, r.m0, r.len, r.slot, r.sep, r.tb⟩

/-! ### targets -/
def tgs : Tg → List Nat
  | .nm i => [i]
  | .tp is => is
  | .bad => []
/-- the value is stored into the target -/
def tG (W : Wd) (g : Gh) (Ω : Nat → Bool) (t : Tg) : TG := fun v σ H Q => ∃ env F st d env', GR W g Ω σ H env F st ∧ Rep W F v d ∧ bindT t d env = some env' ∧
  ∀ σ', GR W g Ω σ' H env' F st → (∀ j, j ∉ tgs t → σ'[j]? = σ[j]?) → σ'.length = σ.length → Q σ' H
def SG (W : Wd) (X : Cx) (g : Gh) (Ω : Nat → Bool) (e : Expr) (t : Tg) : Prop := PG X e (tG W g Ω t)
theorem PG.imp {X : Cx} {e : Expr} {t t' : TG} (h : PG X e t) (i : ∀ v σ H Q, t' v σ H Q → t v σ H Q) : PG X e t' := ⟨fun pins s σ H v u Q I r q => h.run pins s σ H v u Q I r (i _ _ _ _ q)⟩
section
variable {W : Wd} {X : Cx} {g : Gh} {Ω : Nat → Bool} {pos : Pos}
theorem sg_nm {i : Nat} {e : Expr} (h : PG X e (gName i)) (o : Ω i = false) : SG W X g Ω e (.nm i) := PG.imp h fun v σ H Q ⟨env, F, st, d, env', gr, r, b, z⟩ => by
  cases b
  exact z _ (gr.set r o) (fun j hj => List.getElem?_set_ne (fun e => hj (by rw [e]; exact List.mem_cons_self))) (List.length_set ..)
/-- several names, one after another -/
def tGs (W : Wd) (g : Gh) (Ω : Nat → Bool) (is : List Nat) : TGs := fun vs σ H Q => ∃ env F st ds env', GR W g Ω σ H env F st ∧ Reps W F vs ds ∧ bindL is ds env = some env' ∧
  ∀ σ', GR W g Ω σ' H env' F st → (∀ j, j ∉ is → σ'[j]? = σ[j]?) → σ'.length = σ.length → Q σ' H
theorem PGs.imp {es : List Expr} {t t' : TGs} (h : PGs X es t) (i : ∀ v σ H Q, t' v σ H Q → t v σ H Q) : PGs X es t' := ⟨fun pins s σ H v u Q I r q => h.run pins s σ H v u Q I r (i _ _ _ _ q)⟩
theorem sgs_nil : PGs X [] (tGs W g Ω []) := PGs.imp pgs_nil fun vs σ H Q ⟨env, F, st, ds, env', gr, r, b, z⟩ => by
  cases r with
  | nil => cases b; exact ⟨rfl, z σ gr (fun _ _ => rfl) rfl⟩
  | cons _ _ => cases b
theorem sgs_cons {i : Nat} {is : List Nat} {e : Expr} {es : List Expr} (h : PG X e (gName i)) (o : Ω i = false) (hr : PGs X es (tGs W g Ω is)) (hs : (assignEach (e :: es) X.env).map (·.2) = assign e X.env :: (assignEach es X.env).map (·.2)) :
    PGs X (e :: es) (tGs W g Ω (i :: is)) := PGs.imp (pgs_cons h hr hs) fun vs σ H Q ⟨env, F, st, ds, env', gr, r, b, z⟩ => by
  cases r with
  | nil => cases b
  | @cons v vs d ds rv rt =>
    refine ⟨v, vs, rfl, st1 env i (some d), F, st, ds, env', gr.set rv o, rt, b, fun σ' g' k l => z σ' g' (fun j hj => ?_) (by rw [l, List.length_set])⟩
    rw [k j (fun z => hj (List.mem_cons_of_mem _ z)), List.getElem?_set_ne (fun e => hj (by rw [e]; exact List.mem_cons_self))]
theorem sg_tp {is : List Nat} {es : List Expr} {k : Nat} (hK : X.K = W.K) (hc : X.calm = true) (h : PGs X es (tGs W g Ω is)) (hl : is.length = es.length) (hn : (assignEach es X.env).length = es.length) (hst : (assignEach es X.env).findIdx? (·.1) = none) :
    SG W X g Ω (.Tuple es k pos) (.tp is) := PG.imp (pg_tup hc h hn hst) fun v σ H Q ⟨env, F, st, d, env', gr, r, b, z⟩ => by
  cases d with
  | tup ds =>
    obtain ⟨a, vs, rfl, h1, r⟩ := Rep.tup_inv r
    have bl : ∀ (is : List Nat) (ds : List D) (env env' : Env), bindL is ds env = some env' → is.length = ds.length := fun is => by
      induction is with
      | nil => intro ds env env' h; cases ds with | nil => rfl | cons _ _ => cases h
      | cons i is ih => intro ds env env' h; cases ds with | nil => cases h | cons d ds => exact congrArg (· + 1) (ih ds _ _ h)
    exact ⟨a, vs, rfl, hK ▸ gr.sub.sqT h1, by rw [r.length, ← bl _ _ _ _ b, hl], env, F, st, ds, env', gr, r, b, z⟩
  | _ => cases b

/-! ### what is walked -/
/-- J yields what represents ds, turn by turn -/
def JOK (W : Wd) (g : Gh) (J : It) (ds : List D) (F : Hp) : Prop :=
  ∀ (i : Nat) (Ω : Nat → Bool) (σ : L2.St) (H1 : Hp) (env : Env) (F1 : Hp) (st : DS), GR W g Ω σ H1 env F1 st → Le F F1 →
    (∀ d, ds[i]? = some d → J.go i H1 ∧ ∀ x H2, J.yld i H1 x H2 → (∀ a o, H1 a = some o → H2 a = some o) ∧ ∃ F2, GR W g Ω σ H2 env F2 st ∧ Fx H1 F1 H2 F2 ∧ Rep W F2 x d) ∧ (ds.length ≤ i → J.stop i H1)
theorem JOK.mono {J : It} {ds : List D} {F F' : Hp} (h : JOK W g J ds F) (l : Le F F') : JOK W g J ds F' := fun i Ω σ H1 env F1 st gr l' => h i Ω σ H1 env F1 st gr (l.trans l')
/-- it is not too long -/
def Bd (W : Wd) (F : Hp) (ds : List D) : Prop := ds.length ≤ 1000000 ∨ ∃ a vs, ((∃ F', Le F' F ∧ F' a = some (.lst vs)) ∨ SqT W.K F a vs) ∧ ds.length ≤ vs.length
def tI0 (W : Wd) (g : Gh) (Ω : Nat → Bool) (f : Fs) : TI := fun σ H R => ∃ env F st, GR W g Ω σ H env F st ∧
  Wn (fun ds st' => ∀ J H' F', GR W g Ω σ H' env F' st' → Fx H F H' F' → JOK W g J ds F' → Bd W F' ds → R J H') (Lets W g) (f env st)
def tI (W : Wd) (g : Gh) (Ω : Nat → Bool) (f : Fs) : TI := fun σ H R => ∃ env F st, GR W g Ω σ H env F st ∧
  Wn (fun ds st' => ∀ J H' F', GR W g Ω σ H' env F' st' → Fx H F H' F' → JOK W g J ds F' → ds.length ≤ sizeLine → R J H') (Lets W g) (f env st)
def SI (W : Wd) (X : Cx) (g : Gh) (Ω : Nat → Bool) (tg e : Expr) (f : Fs) : Prop := PI X tg e (tI W g Ω f)
theorem PI.imp {tg e : Expr} {t t' : TI} (h : PI X tg e t) (i : ∀ σ H R, t' σ H R → t σ H R) : PI X tg e t' := ⟨fun pins s σ H R I q => h.run pins s σ H R I (i _ _ _ q)⟩
/-- nothing that stands there is too long -/
theorem PI.len {tg e : Expr} {f : Fs} (hK : X.K = W.K) (h : PI X tg e (tI0 W g Ω f)) : SI W X g Ω tg e f := ⟨fun pins s σ H R I ⟨env, F, st, gr, z⟩ => by
  refine thn (h.run pins s σ H (fun J H' => ∃ ds F', LeK F' H' ∧ Bd W F' ds ∧ (ds.length ≤ sizeLine → R J H')) I ⟨env, F, st, gr, z.mono fun ds st' z J H' F' g' fx j b => ⟨ds, F', g'.sub, b, z J H' F' g' fx j⟩⟩) fun v s1 h1 => thn h1 fun itv s2 ⟨it, fp, tn, J, H', e1, I2, e2, e3, e4, ds, F', lk, b, z⟩ => ⟨it, fp, tn, J, H', e1, I2, e2, e3, e4, z ?_⟩
  rcases b with b | ⟨a, vs, b | b, c⟩
  · exact Nat.le_trans b (by decide)
  · obtain ⟨F2, l2, b⟩ := b
    obtain ⟨its, _, _, hz⟩ := I2.list (SqL.of ((lk _ _ (l2 _ _ b)).plain rfl))
    exact Nat.le_trans c hz
  · obtain ⟨its, _, _, hz⟩ := I2.tuple (hK ▸ lk.sqT b)
    exact Nat.le_trans c hz⟩
theorem jok_list {K : PySem.W.Frag} {a : Addr} {vs : List V} {ds : List D} {F : Hp} (h : F a = some (.lst vs)) (r : Reps W F vs ds) : JOK W g (Itl K a) ds F := fun i Ω σ H1 env F1 st gr l => by
  have hq : SqL K H1 a vs := SqL.of ((gr.sub _ _ (l _ _ h)).plain rfl)
  refine ⟨fun d e => ?_, fun e => ⟨vs, hq, by rw [r.length]; exact e⟩⟩
  obtain ⟨v, e1, r1⟩ := r.get e
  refine ⟨⟨vs, v, hq, e1⟩, fun x H2 y => ?_⟩
  obtain ⟨e2, y⟩ := y
  subst e2
  have e3 := y vs hq
  rw [e1] at e3
  cases e3
  exact ⟨fun _ _ z => z, F1, gr, Fx.refl _ _, r1.mono l⟩
theorem jok_tup {a : Addr} {vs : List V} {ds : List D} {F : Hp} (h : SqT W.K F a vs) (r : Reps W F vs ds) : JOK W g (Itt W.K a) ds F := fun i Ω σ H1 env F1 st gr l => by
  have hq : SqT W.K H1 a vs := gr.sub.sqT (l.sqT h)
  refine ⟨fun d e => ?_, fun e => ⟨vs, hq, by rw [r.length]; exact e⟩⟩
  obtain ⟨v, e1, r1⟩ := r.get e
  refine ⟨⟨vs, v, hq, e1⟩, fun x H2 y => ?_⟩
  obtain ⟨e2, y⟩ := y
  subst e2
  have e3 := y vs hq
  rw [e1] at e3
  cases e3
  exact ⟨fun _ _ z => z, F1, gr, Fx.refl _ _, r1.mono l⟩
theorem jok_scr {a : Addr} {ns : List Int} {F : Hp} (h : SqL W.K F a (ns.map V.int)) : JOK W g (Itl W.K a) (ns.map D.int) F := fun i Ω σ H1 env F1 st gr l => by
  have hq : SqL W.K H1 a (ns.map V.int) := gr.sub.sqL (l.sqL h)
  refine ⟨fun d e => ?_, fun e => ⟨_, hq, by rw [List.length_map] at e ⊢; exact e⟩⟩
  rw [List.getElem?_map] at e
  cases q : ns[i]? with
  | none => rw [q] at e; cases e
  | some n =>
    rw [q] at e
    cases e
    have e1 : (ns.map V.int)[i]? = some (.int n) := by rw [List.getElem?_map, q]; rfl
    refine ⟨⟨_, _, hq, e1⟩, fun x H2 y => ?_⟩
    obtain ⟨e2, y⟩ := y
    subst e2
    have e3 := y _ hq
    rw [e1] at e3
    cases e3
    exact ⟨fun _ _ z => z, F1, gr, Fx.refl _ _, .int _⟩
theorem rangeL_get : ∀ (n i : Nat) (lo : Int), (rangeL lo n)[i]? = if i < n then some (D.int (lo + i)) else none
  | 0, i, lo => by simp [rangeL]
  | n + 1, 0, lo => by simp [rangeL]
  | n + 1, i + 1, lo => by
    rw [rangeL, List.getElem?_cons_succ, rangeL_get n i (lo + 1)]
    by_cases h : i < n
    · rw [if_pos h, if_pos (by omega)]
      congr 2
      omega
    · rw [if_neg h, if_neg (by omega)]
theorem rangeL_length : ∀ (n : Nat) (lo : Int), (rangeL lo n).length = n
  | 0, _ => rfl
  | n + 1, lo => congrArg (· + 1) (rangeL_length n (lo + 1))
theorem jok_range {lo : Int} {n : Nat} {F : Hp} : JOK W g (Itr lo n) (rangeL lo n) F := fun i Ω σ H1 env F1 st gr l => by
  refine ⟨fun d e => ?_, fun e => by rw [rangeL_length] at e; exact e⟩
  rw [rangeL_get] at e
  split at e
  · rename_i h
    cases e
    refine ⟨h, fun x H2 y => ?_⟩
    obtain ⟨e2, e3⟩ := y
    subst e2 e3
    exact ⟨fun _ _ z => z, F1, gr, Fx.refl _ _, .int _⟩
  · cases e
theorem jok_str {x : Str} {F : Hp} : JOK W g (Its x) (x.cps.toList.map fun c => D.str ⟨#[c]⟩) F := fun i Ω σ H1 env F1 st gr l => by
  have sz : (x.cps.toList.map fun c => D.str ⟨#[c]⟩).length = x.cps.size := by rw [List.length_map, Array.length_toList]
  refine ⟨fun d e => ?_, fun e => by rw [sz] at e; exact e⟩
  have hi : i < x.cps.size := by rw [← sz]; exact (List.getElem?_eq_some_iff.mp e).1
  refine ⟨hi, fun v H2 y => ?_⟩
  obtain ⟨e2, c, e3, e4⟩ := y
  subst e2 e4
  rw [List.getElem?_map, Array.getElem?_toList, e3] at e
  cases e
  exact ⟨fun _ _ z => z, F1, gr, Fx.refl _ _, .str _⟩
/-- what is walked by its value: a list, a tuple, a text -/
theorem si_e {tg e : Expr} {f : Fe} (hK : X.K = W.K) (h : SE W X g Ω .rep e f) : SI W X g Ω tg e fun env st => (f env st).bind fun d st => ofO (itemsD d) st := by
  refine PI.len hK ⟨fun pins s σ H R I ⟨env, F, st, gr, z⟩ => ?_⟩
  refine thn (PE.run h pins s σ H (fun v H1 => ∃ F1 st1 d, GR W g Ω σ H1 env F1 st1 ∧ Fx H F H1 F1 ∧ Rep W F1 v d ∧ Wn (fun ds st' => ∀ J H' F', GR W g Ω σ H' env F' st' → Fx H F H' F' → JOK W g J ds F' → Bd W F' ds → R J H') (Lets W g) (ofO (itemsD d) st1)) I ⟨env, F, st, gr, z.bind.mono fun d st1 z v H1 F1 g1 fx1 l1 => ⟨F1, st1, d, g1, fx1, l1, z⟩⟩) fun v s1 ⟨x, H1, I1, r1, F1, st1, d, g1, fx1, l1, z⟩ => ?_
  obtain ⟨ds, q, z⟩ := Wn.ofO z
  cases d with
  | lst ds' =>
    cases q
    cases l1 with
    | @lst a vs _ h1 r =>
      cases r1
      have hq : SqL X.K H1 a vs := SqL.of ((g1.sub _ _ h1).plain rfl)
      obtain ⟨its, rv, p, hz⟩ := I1.list hq
      refine wpAny_pyIter_list p.isList ?_
      refine ⟨s1.heap.objs.size, [s1.heap.objs.size], _, _, H1, rfl, I1.kept (t' := s1.toks) fun b o e => Heap.get?_push_of_some _ e, turn_list a _, ⟨_, Heap.get?_push_size _ rfl, rfl, rfl⟩, fun b hb => ?_, z _ H1 F1 g1 fx1 (jok_list h1 r) (.inr ⟨_, _, .inl ⟨_, Le.refl _, h1⟩, Nat.le_of_eq r.length.symm⟩)⟩
      have e : b = s1.heap.objs.size := by simpa using hb
      subst e
      exact I1.fpOk (Nat.le_refl _) (I1.hok.fresh (Nat.le_refl _))
  | tup ds' =>
    cases q
    obtain ⟨a, vs, rfl, h1, r⟩ := Rep.tup_inv l1
    cases r1
    have hq : SqT X.K H1 a vs := hK ▸ g1.sub.sqT h1
    obtain ⟨its, rv, p, hz⟩ := I1.tuple hq
    refine wpAny_pyIter_tuple (show s1.heap.IsTuple a its.toArray from p) ?_
    refine ⟨s1.heap.objs.size, [s1.heap.objs.size], _, _, H1, rfl, I1.kept (t' := s1.toks) fun b o e => Heap.get?_push_of_some _ e, turn_tuple a _, ⟨_, Heap.get?_push_size _ rfl, rfl, rfl⟩, fun b hb => ?_, z _ H1 F1 g1 fx1 (hK ▸ jok_tup h1 r) (.inr ⟨_, _, .inr h1, Nat.le_of_eq r.length.symm⟩)⟩
    have e : b = s1.heap.objs.size := by simpa using hb
    subst e
    exact I1.fpOk (Nat.le_refl _) (I1.hok.fresh (Nat.le_refl _))
  | scr ns =>
    simp only [itemsD] at q
    split at q
    case isFalse => cases q
    rename_i hn
    cases q
    cases l1 with
    | @scr a _ h1 =>
      cases r1
      have hq : SqL X.K H1 a (ns.map V.int) := hK ▸ g1.sub.sqL h1
      obtain ⟨its, rv, p, hz⟩ := I1.list hq
      refine wpAny_pyIter_list p.isList ?_
      refine ⟨s1.heap.objs.size, [s1.heap.objs.size], _, _, H1, rfl, I1.kept (t' := s1.toks) fun b o e => Heap.get?_push_of_some _ e, turn_list a _, ⟨_, Heap.get?_push_size _ rfl, rfl, rfl⟩, fun b hb => ?_, z _ H1 F1 g1 fx1 (hK ▸ jok_scr h1) (.inl (by rw [List.length_map]; exact hn))⟩
      have e : b = s1.heap.objs.size := by simpa using hb
      subst e
      exact I1.fpOk (Nat.le_refl _) (I1.hok.fresh (Nat.le_refl _))
  | str x =>
    simp only [itemsD] at q
    split at q
    case isFalse => cases q
    rename_i hx
    cases q
    rw [Rep.str_inv l1] at r1
    obtain ⟨t, rfl⟩ := r1
    have hlen : Bd W F1 (x.cps.toList.map fun c => D.str ⟨#[c]⟩) := .inl (by rw [List.length_map, Array.length_toList]; exact hx)
    cases ha : x.cps.all (· < 128)
    · exact wpAny_pyIter_wide ha (pi_one (tk := s1.toks) I1 _ (turn_str _ x t "str_iterator" (.inr rfl)) ⟨_, Heap.get?_push_size _ rfl, rfl, rfl⟩ (z _ H1 F1 g1 fx1 jok_str hlen))
    · exact wpAny_pyIter_ascii ha (pi_one (tk := s1.toks) I1 _ (turn_str _ x t "str_ascii_iterator" (.inl rfl)) ⟨_, Heap.get?_push_size _ rfl, rfl, rfl⟩ (z _ H1 F1 g1 fx1 jok_str hlen))
  | _ => cases q
theorem si_range1 {tg a : Expr} {f : Fe} {p : Pos} (hK : X.K = W.K) (hg : Gl X "range") (hm : X.mg "range" = none) (ha : SE W X g Ω .rep a f) (hs : starEach [a] X.env = [(false, eval a X.env)]) :
    SI W X g Ω tg (.Call (.Name "range" p) [a] [] pos) fun env st => (f env st).bind fun d st => ofO (rangeD [d]) st :=
  PI.len hK <| PI.imp (pi_range1 hg hm (pa_cons ha pa_nil hs) hs) fun σ H R ⟨env, F, st, gr, z⟩ => ⟨env, F, st, gr, z.bind.mono fun d st1 z v H1 F1 g1 fx1 l1 => by
    obtain ⟨ds, q, z⟩ := Wn.ofO z
    cases d with
    | int j =>
      simp only [rangeD] at q
      split at q
      · rename_i c
        cases q
        exact ⟨j, by rw [Rep.int_inv l1], by omega, by omega, z _ H1 F1 g1 fx1 jok_range (.inl (by rw [rangeL_length]; omega))⟩
      · cases q
    | _ => cases q⟩
theorem si_range2 {tg a b : Expr} {f fb : Fe} {p : Pos} (hK : X.K = W.K) (hg : Gl X "range") (hm : X.mg "range" = none) (ha : SE W X g Ω .rep a f) (hb : SE W X g Ω .rep b fb) (hs : starEach [a, b] X.env = [(false, eval a X.env), (false, eval b X.env)]) (hs2 : starEach [b] X.env = [(false, eval b X.env)]) :
    SI W X g Ω tg (.Call (.Name "range" p) [a, b] [] pos) fun env st => (f env st).bind fun d st => (fb env st).bind fun e st => ofO (rangeD [d, e]) st :=
  PI.len hK <| PI.imp (pi_range2 hg hm (pa_cons ha (pa_cons hb pa_nil hs2) (by rw [hs, hs2])) hs hs2) fun σ H R ⟨env, F, st, gr, z⟩ => ⟨env, F, st, gr, z.bind.mono fun d st1 z v H1 F1 g1 fx1 l1 => ⟨env, F1, st1, g1, z.bind.mono fun e st2 z u H2 F2 g2 fx2 l2 => by
    obtain ⟨ds, q, z⟩ := Wn.ofO z
    cases d with
    | int i =>
      cases e with
      | int j =>
        simp only [rangeD] at q
        split at q
        · rename_i c
          cases q
          exact ⟨i, j, by rw [Rep.int_inv l1, Rep.int_inv l2], by omega, z _ H2 F2 g2 (fx1.trans fx2) jok_range (.inl (by rw [rangeL_length]; omega))⟩
        · cases q
      | _ => cases q
    | _ => cases q⟩⟩
theorem zip2_get : ∀ (xs ys : List D) (i : Nat) (d : D), (zip2 xs ys)[i]? = some d → ∃ x y, d = .tup [x, y] ∧ xs[i]? = some x ∧ ys[i]? = some y
  | [], ys, i, d, h => by cases ys <;> simp [zip2] at h
  | x :: xs, [], i, d, h => by simp [zip2] at h
  | x :: xs, y :: ys, 0, d, h => by simp [zip2] at h; exact ⟨x, y, h.symm, rfl, rfl⟩
  | x :: xs, y :: ys, i + 1, d, h => by
    rw [zip2, List.getElem?_cons_succ] at h
    obtain ⟨a, b, e, h1, h2⟩ := zip2_get xs ys i d h
    exact ⟨a, b, e, by simpa using h1, by simpa using h2⟩
theorem zip2_len : ∀ (xs ys : List D), (zip2 xs ys).length ≤ xs.length
  | [], ys => by cases ys <;> exact Nat.le_refl _
  | x :: xs, [] => Nat.zero_le _
  | x :: xs, y :: ys => Nat.succ_le_succ (zip2_len xs ys)
theorem zip2_end : ∀ (xs ys : List D) (i : Nat), (zip2 xs ys).length ≤ i → xs.length ≤ i ∨ ys.length ≤ i
  | [], ys, i, h => .inl (Nat.zero_le _)
  | x :: xs, [], i, h => .inr (Nat.zero_le _)
  | x :: xs, y :: ys, 0, h => absurd h (Nat.not_succ_le_zero _)
  | x :: xs, y :: ys, i + 1, h => (zip2_end xs ys i (Nat.le_of_succ_le_succ h)).imp Nat.succ_le_succ Nat.succ_le_succ
theorem jok_zipL {K : PySem.W.Frag} {a b : Addr} {vs ws : List V} {xs ys : List D} {F : Hp} (h : F a = some (.lst vs)) (r : Reps W F vs xs) (h' : F b = some (.lst ws)) (r' : Reps W F ws ys) : JOK W g (Itz K a b) (zip2 xs ys) F := fun i Ω σ H1 env F1 st gr l => by
  have ha : SqL K H1 a vs := SqL.of ((gr.sub _ _ (l _ _ h)).plain rfl)
  have hb : SqL K H1 b ws := SqL.of ((gr.sub _ _ (l _ _ h')).plain rfl)
  refine ⟨fun d e => ?_, fun e => ⟨vs, ws, ha, hb, by rw [r.length, r'.length]; exact zip2_end _ _ _ e⟩⟩
  obtain ⟨x, y, e, e1, e2⟩ := zip2_get _ _ _ _ e
  subst e
  obtain ⟨v, e3, r1⟩ := r.get e1
  obtain ⟨u, e4, r2⟩ := r'.get e2
  refine ⟨⟨vs, ws, v, u, ha, hb, e3, e4⟩, fun w H2 y => ?_⟩
  obtain ⟨T, x1, x2, rfl, n, rfl, k1, k2⟩ := y
  have q1 := k1 vs ha
  have q2 := k2 ws hb
  rw [e3] at q1
  rw [e4] at q2
  cases q1
  cases q2
  have fx := Fx.allocK (o := .tup [v, u]) (gr.free n) n
  exact ⟨fun c o z => by rw [L2.upd_ne (ne_of_none z n)]; exact z, _, gr.allocK n, fx, .tup (SqT.of L2.upd_same) (.cons ((r1.mono l).mono fx.le) (.cons ((r2.mono l).mono fx.le) .nil))⟩
theorem jok_zipT {a b : Addr} {vs ws : List V} {xs ys : List D} {F : Hp} (h : SqT W.K F a vs) (r : Reps W F vs xs) (h' : SqT W.K F b ws) (r' : Reps W F ws ys) : JOK W g (RZ.ItzT W.K a b) (zip2 xs ys) F := fun i Ω σ H1 env F1 st gr l => by
  have ha : SqT W.K H1 a vs := gr.sub.sqT (l.sqT h)
  have hb : SqT W.K H1 b ws := gr.sub.sqT (l.sqT h')
  refine ⟨fun d e => ?_, fun e => ⟨vs, ws, ha, hb, by rw [r.length, r'.length]; exact zip2_end _ _ _ e⟩⟩
  obtain ⟨x, y, e, e1, e2⟩ := zip2_get _ _ _ _ e
  subst e
  obtain ⟨v, e3, r1⟩ := r.get e1
  obtain ⟨u, e4, r2⟩ := r'.get e2
  refine ⟨⟨vs, ws, v, u, ha, hb, e3, e4⟩, fun w H2 y => ?_⟩
  obtain ⟨T, x1, x2, rfl, n, rfl, k1, k2⟩ := y
  have q1 := k1 vs ha
  have q2 := k2 ws hb
  rw [e3] at q1
  rw [e4] at q2
  cases q1
  cases q2
  have fx := Fx.allocK (o := .tup [v, u]) (gr.free n) n
  exact ⟨fun c o z => by rw [L2.upd_ne (ne_of_none z n)]; exact z, _, gr.allocK n, fx, .tup (SqT.of L2.upd_same) (.cons ((r1.mono l).mono fx.le) (.cons ((r2.mono l).mono fx.le) .nil))⟩
theorem si_zip {a b : Expr} {f fb : Fe} {p tpos : Pos} {elts : List Expr} {kk : Nat} (hK : X.K = W.K) (hg : Gl X "zip") (hm : X.mg "zip" = none) (ha : SE W X g Ω .rep a f) (hb : SE W X g Ω .rep b fb) (hs : starEach [a, b] X.env = (false, eval a X.env) :: starEach [b] X.env) (hs2 : starEach [b] X.env = (false, eval b X.env) :: starEach [] X.env) :
    SI W X g Ω (.Tuple elts kk tpos) (.Call (.Name "zip" p) [a, b] [] pos) fun env st => (f env st).bind fun d st => (fb env st).bind fun e st => ofO (zipD d e) st :=
  PI.len hK <| PI.imp (RZ.pi_zipA hg hm (pa_cons ha (pa_cons hb pa_nil hs2) hs) hs (by rw [hs2]; rfl)) fun σ H R ⟨env, F, st, gr, z⟩ => ⟨env, F, st, gr, z.bind.mono fun d st1 z v H1 F1 g1 fx1 l1 => ⟨env, F1, st1, g1, z.bind.mono fun e st2 z u H2 F2 g2 fx2 l2 => by
    obtain ⟨ds, q, z⟩ := Wn.ofO z
    have l1 := Rep.mono fx2.le l1
    cases d with
    | lst xs =>
      cases e with
      | lst ys =>
        cases q
        cases l1 with
        | @lst a vs _ h1 r =>
          cases l2 with
          | @lst b ws _ h2 r' =>
            exact ⟨a, b, vs, ws, rfl, .inl ⟨SqL.of ((g2.sub _ _ h1).plain rfl), SqL.of ((g2.sub _ _ h2).plain rfl), z _ H2 F2 g2 (fx1.trans fx2) (jok_zipL h1 r h2 r') (.inr ⟨_, _, .inl ⟨_, Le.refl _, h1⟩, by rw [r.length]; exact zip2_len _ _⟩)⟩⟩
      | _ => cases q
    | tup xs =>
      cases e with
      | tup ys =>
        cases q
        obtain ⟨a, vs, rfl, h1, r⟩ := Rep.tup_inv l1
        obtain ⟨b, ws, rfl, h2, r'⟩ := Rep.tup_inv l2
        exact ⟨a, b, vs, ws, rfl, .inr ⟨hK ▸ g2.sub.sqT h1, hK ▸ g2.sub.sqT h2, z _ H2 F2 g2 (fx1.trans fx2) (hK ▸ jok_zipT h1 r h2 r') (.inr ⟨_, _, .inr h1, by rw [r.length]; exact zip2_len _ _⟩)⟩⟩
      | _ => cases q
    | _ => cases q⟩⟩
end
end Ev
/-! Ev8: comprehensions. -/
namespace Ev
open PySem PySem.Spec PyProof.Rows L2
open Classical in
/-- the entry of a block: what stands there, but what a slot alone holds -/
noncomputable def atB (Ω : Nat → Bool) (σ : L2.St) (env : Env) (H F : Hp) : Gh :=
  ⟨fun a => if (∃ i d, Ω i = true ∧ lk env i = some d ∧ isM d = true ∧ σ[i]? = some (some (.ref a))) then none else H a, F, fun _ _ _ => False⟩
section
variable {W : Wd} {g : Gh} {Ω Ωb : Nat → Bool} {σ σ2 : L2.St} {H H' : Hp} {env env2 : Env} {F F' : Hp} {st st2 : DS} {p Da : Addr} {o : HO} {v : V} {d : D} {i : Nat}
theorem Own.isM_inv {H0 : Hp} (h : Own W H0 H F v d) (m : isM d = true) : ∃ p o, v = .ref p ∧ H p = some o ∧ F p = none ∧ H0 p = none := by
  cases d with
  | lst ds => obtain ⟨p, vs, e, h1, h2, h3, r⟩ := h; exact ⟨p, _, e, h1, h2, h3⟩
  | dK ds => obtain ⟨p, vs, e, h1, h2, h3, r⟩ := h; exact ⟨p, _, e, h1, h2, h3⟩
  | dT ds => obtain ⟨p, vs, e, h1, h2, h3, r⟩ := h; exact ⟨p, _, e, h1, h2, h3⟩
  | _ => cases m
theorem Own.nf {H0 : Hp} {p : Addr} {o : HO} (h : Own W H0 H F (.ref p) d) (m : isM d = true) (e : H p = some o) : ∀ ob φ, o ≠ .frz ob (.ext φ) := fun ob φ z => by
  subst z
  cases d with
  | lst ds => obtain ⟨q, vs, e1, h1, _⟩ := h; cases e1; rw [e] at h1; cases h1
  | dK ds => obtain ⟨q, vs, e1, h1, _⟩ := h; cases e1; rw [e] at h1; cases h1
  | dT ds => obtain ⟨q, vs, e1, h1, _⟩ := h; cases e1; rw [e] at h1; cases h1
  | _ => cases m
theorem Own.set0 {H0 H0' : Hp} (h : Own W H0 H F v d) (n : ∀ p, isM d = true → v = .ref p → H0' p = none) : Own W H0' H F v d := by
  cases d with
  | lst ds => obtain ⟨p, vs, e, h1, h2, h3, r⟩ := h; exact ⟨p, vs, e, h1, h2, n p rfl e, r⟩
  | dK ds => obtain ⟨p, vs, e, h1, h2, h3, r⟩ := h; exact ⟨p, vs, e, h1, h2, n p rfl e, r⟩
  | dT ds => obtain ⟨p, vs, e, h1, h2, h3, r⟩ := h; exact ⟨p, vs, e, h1, h2, n p rfl e, r⟩
  | _ => exact h
theorem GR.enter (r : GR W g Ω σ H env F st) (vs : List Nat) : GR W (atB (fun i => Ω i && !vs.contains i) σ env H F) (fun i => Ω i && !vs.contains i) (L2.wipe σ vs) H (wipeE env vs) F st := by
  have b := r.wipe vs
  refine ⟨fun a o h n => ?_, r.sub, r.nmut, Le.refl _, fun a o h => .inl h, r.inv, fun a h => ?_, b.len, fun j e hj => ?_, b.sep, r.tb⟩
  · simp only [atB] at h
    split at h
    · cases h
    · exact h
  · simp only [atB]
    split
    · rename_i c
      obtain ⟨j, e, oj, hj, m, sj⟩ := c
      rw [Bool.and_eq_true] at oj
      obtain ⟨v, h1, h2⟩ := r.slot j e hj
      rw [sj] at h1
      cases h1
      rw [if_pos oj.1] at h2
      obtain ⟨p, o, e1, _, _, e4⟩ := h2.isM_inv m
      cases e1
      exact absurd e4 (r.m0 _ h)
    · exact W.there H st a r.inv h
  · obtain ⟨h1, h2⟩ := lk_wipe hj
    obtain ⟨v, e1, e2⟩ := r.slot j e h1
    refine ⟨v, by rw [wipe_get h2]; exact e1, ?_⟩
    have c : (Ω j && !vs.contains j) = Ω j := by
      have : vs.contains j = false := by simpa using h2
      rw [this]; simp
    show if (Ω j && !vs.contains j) = true then _ else _
    rw [c]
    split
    · rename_i oj
      rw [if_pos oj] at e2
      refine e2.set0 fun p m hv => ?_
      simp only [atB]
      rw [if_pos ⟨j, e, by rw [c]; exact oj, h1, m, by rw [e1, hv]⟩]
    · rename_i oj
      rw [if_neg oj] at e2
      exact e2
/-- back from a block -/
theorem GR.leave {vs : List Nat} (r : GR W g Ω σ H env F st) (r2 : GR W (atB (fun i => Ω i && !vs.contains i) σ env H F) (fun i => Ω i && !vs.contains i) σ2 H' env2 F' st2)
    (hs : ∀ i, i ∉ vs → σ2[i]? = σ[i]?) (he : ∀ i, i ∉ vs → lk env2 i = lk env i) : GR W g Ω σ H' env F' st2 := by
  have nown : ∀ a, g.H0 a ≠ none → ¬ ∃ i d, (Ω i && !vs.contains i) = true ∧ lk env i = some d ∧ isM d = true ∧ σ[i]? = some (some (.ref a)) := fun a h ⟨j, e, oj, hj, m, sj⟩ => by
    rw [Bool.and_eq_true] at oj
    obtain ⟨v, h1, h2⟩ := r.slot j e hj
    rw [sj] at h1
    cases h1
    rw [if_pos oj.1] at h2
    obtain ⟨p, o, e1, _, _, e4⟩ := h2.isM_inv m
    cases e1
    exact h e4
  have kp : ∀ a o, (¬ ∃ i d, (Ω i && !vs.contains i) = true ∧ lk env i = some d ∧ isM d = true ∧ σ[i]? = some (some (.ref a))) → H a = some o → ¬ W.mt a → H' a = some o := fun a o n h m => r2.keep a o (by simp only [atB]; rw [if_neg n]; exact h) m
  refine ⟨fun a o h m => ?_, r2.sub, r2.nmut, r.old.trans r2.old, fun a o h => ?_, r2.inv, r.m0, r.len, fun j e hj => ?_, r.sep, r2.tb⟩
  · exact kp a o (nown a (by rw [h]; simp)) (r.keep a o h m) m
  · by_cases m : W.mt a
    · rw [r2.nmut a m] at h; cases h
    rcases r2.new a o h with h | h
    · exact r.new a o h
    · right
      cases q : g.H0 a with
      | none => rfl
      | some u =>
        simp only [atB] at h
        rw [if_neg (nown a (by rw [q]; simp)), r.keep a u q m] at h
        cases h
  · obtain ⟨v, h1, h2⟩ := r.slot j e hj
    refine ⟨v, h1, ?_⟩
    by_cases c : j ∈ vs
    · split
      · rename_i oj
        rw [if_pos oj] at h2
        by_cases m : isM e = true
        · obtain ⟨p, o, e1, e2, e3, e4⟩ := h2.isM_inv m
          have np : ¬ ∃ i d, (Ω i && !vs.contains i) = true ∧ lk env i = some d ∧ isM d = true ∧ σ[i]? = some (some (.ref p)) := fun ⟨k, dk, ok, hk, mk1, sk⟩ => by
            rw [Bool.and_eq_true] at ok
            have := r.sep j k v e dk oj ok.1 hj hk m mk1 h1 (by rw [sk, e1])
            rw [← this] at ok
            simp [c] at ok
          have hm : ¬ W.mt p := fun z => r.m0 p z e4
          have Hp := kp p o np e2 hm
          have Fp : F' p = none := by
            cases q : F' p with
            | none => rfl
            | some u =>
              rcases r2.new p u q with z | z
              · have z : F p = some u := z
                rw [e3] at z; cases z
              · simp only [atB] at z
                rw [if_neg np, e2] at z; cases z
          have le : Le F F' := r2.old
          cases e with
          | lst ds => obtain ⟨p', ws, e1', a1, a2, a3, a4⟩ := h2; rw [e1] at e1'; cases e1'; rw [e2] at a1; exact ⟨p, ws, e1, by rw [Hp, a1], Fp, a3, a4.mono le⟩
          | dK ds => obtain ⟨p', ws, e1', a1, a2, a3, a4, a5⟩ := h2; rw [e1] at e1'; cases e1'; rw [e2] at a1; exact ⟨p, ws, e1, by rw [Hp, a1], Fp, a3, a4, a5.mono le⟩
          | dT ds => obtain ⟨p', ws, e1', a1, a2, a3, a4, a5⟩ := h2; rw [e1] at e1'; cases e1'; rw [e2] at a1; exact ⟨p, ws, e1, by rw [Hp, a1], Fp, a3, a4, a5.mono le⟩
          | _ => cases m
        · have le : Le F F' := r2.old
          cases e with
          | lst _ => exact absurd rfl m
          | dK _ => exact absurd rfl m
          | dT _ => exact absurd rfl m
          | _ => exact Rep.mono le h2
      · rename_i oj
        rw [if_neg oj] at h2
        exact Rep.mono r2.old h2
    · obtain ⟨w, h3, h4⟩ := r2.slot j e (by rw [he j c]; exact hj)
      rw [hs j c, h1] at h3
      cases h3
      have cc : (Ω j && !vs.contains j) = Ω j := by
        have : vs.contains j = false := by simpa using c
        rw [this]; simp
      have h4 : if (Ω j && !vs.contains j) = true then _ else _ := h4
      rw [cc] at h4
      split
      · rename_i oj
        rw [if_pos oj] at h4 h2
        refine h4.set0 fun p m hv => ?_
        obtain ⟨p', o, e1, _, _, e4⟩ := h2.isM_inv m
        rw [hv] at e1; cases e1
        exact e4
      · rename_i oj
        rw [if_neg oj] at h4
        exact h4
/-- an object that nobody else knows is as it was -/
theorem GR.leaveD {vs : List Nat} (r : GR W g Ω σ H env F st) (r2 : GR W (atB (fun i => Ω i && !vs.contains i) σ env H F) (fun i => Ω i && !vs.contains i) σ2 H' env2 F' st2)
    (hD : H Da = some o) (hF : F Da = none) (h0 : g.H0 Da = none) (n : ∀ i d, Ω i = true → lk env i = some d → isM d = true → σ[i]? ≠ some (some (.ref Da))) : H' Da = some o ∧ F' Da = none := by
  have np : ¬ ∃ i d, (Ω i && !vs.contains i) = true ∧ lk env i = some d ∧ isM d = true ∧ σ[i]? = some (some (.ref Da)) := fun ⟨k, dk, ok, hk, mk1, sk⟩ => by
    rw [Bool.and_eq_true] at ok
    exact n k dk ok.1 hk mk1 sk
  have hm : ¬ W.mt Da := fun z => r.m0 Da z h0
  refine ⟨r2.keep Da o (by simp only [atB]; rw [if_neg np]; exact hD) hm, ?_⟩
  cases q : F' Da with
  | none => rfl
  | some u =>
    rcases r2.new Da u q with z | z
    · have z : F Da = some u := z
      rw [hF] at z; cases z
    · simp only [atB] at z
      rw [if_neg np, hD] at z; cases z
/-- an object that nobody else knows is written -/
theorem GR.write {u : HO} (r : GR W g Ω σ H env F st) (no : ∀ ps, u ≠ .tbl ps) (nc : ∀ c q, o ≠ LamX.CodeO c q) (hD : H Da = some o) (hF : F Da = none) (h0 : g.H0 Da = none) (n : ∀ i d, Ω i = true → lk env i = some d → isM d = true → σ[i]? ≠ some (some (.ref Da))) : GR W g Ω σ (L2.upd H Da u) env F st := by
  have hm : ¬ W.mt Da := fun z => r.m0 Da z h0
  refine ⟨fun a u h m => ?_, fun a u h => ?_, r.nmut, r.old, r.new, W.stable _ _ _ r.inv (fun a h => L2.upd_ne fun e => hm (e ▸ h)) (fun a c q h => by
    by_cases e : a = Da
    · rw [e, hD] at h; cases h; exact (nc c q rfl).elim
    · rw [L2.upd_ne e]; exact h), r.m0, r.len, fun i d h => ?_, r.sep, r.tb.upd fun c q z => nc c q (by rw [hD] at z; exact Option.some.inj z)⟩
  · rw [L2.upd_ne (ne_of_none h h0)]; exact r.keep a u h m
  · have ne := ne_of_none h hF
    exact (r.sub a u h).keep fun o z => by rw [L2.upd_ne ne]; exact z
  · obtain ⟨v, h1, h2⟩ := r.slot i d h
    refine ⟨v, h1, ?_⟩
    split
    · rename_i oi
      rw [if_pos oi] at h2
      by_cases m : isM d = true
      · obtain ⟨p, o', e1, e2, e3, e4⟩ := h2.isM_inv m
        have ne : p ≠ Da := fun e => n i d oi h m (by rw [h1, e1, e])
        cases d with
        | lst ds => obtain ⟨p', ws, e1', a1, a2⟩ := h2; rw [e1] at e1'; cases e1'; exact ⟨p, ws, e1, by rw [L2.upd_ne ne]; exact a1, a2⟩
        | dK ds => obtain ⟨p', ws, e1', a1, a2⟩ := h2; rw [e1] at e1'; cases e1'; exact ⟨p, ws, e1, by rw [L2.upd_ne ne]; exact a1, a2⟩
        | dT ds => obtain ⟨p', ws, e1', a1, a2⟩ := h2; rw [e1] at e1'; cases e1'; exact ⟨p, ws, e1, by rw [L2.upd_ne ne]; exact a1, a2⟩
        | _ => cases m
      · cases d with
        | lst _ => exact absurd rfl m
        | dK _ => exact absurd rfl m
        | dT _ => exact absurd rfl m
        | _ => exact h2
    · rename_i oi
      rw [if_neg oi] at h2
      exact h2
theorem GR.newOwn (r : GR W g Ω σ H env F st) (hp : H p = none) : ∀ i d, Ω i = true → lk env i = some d → isM d = true → σ[i]? ≠ some (some (.ref p)) := fun i d oi h m s => by
  obtain ⟨v, h1, h2⟩ := r.slot i d h
  rw [s] at h1
  cases h1
  rw [if_pos oi] at h2
  obtain ⟨p', o', e1, e2, e3, e4⟩ := h2.isM_inv m
  cases e1
  rw [hp] at e2
  cases e2
end

theorem bindL_lk : ∀ (is : List Nat) (ds : List D) (env env' : Env) (j : Nat), bindL is ds env = some env' → j ∉ is → lk env' j = lk env j
  | [], [], env, env', j, h, _ => by cases h; rfl
  | [], _ :: _, _, _, _, h, _ => by cases h
  | _ :: _, [], _, _, _, h, _ => by cases h
  | i :: is, d :: ds, env, env', j, h, n => by
    rw [bindL_lk is ds (st1 env i (some d)) env' j h fun z => n (List.mem_cons_of_mem _ z), lk_st1, if_neg]
    exact fun e => n (by rw [e.1]; exact List.mem_cons_self)
theorem bindT_lk {t : Tg} {d : D} {env env' : Env} {j : Nat} (h : bindT t d env = some env') (n : j ∉ tgs t) : lk env' j = lk env j := by
  cases t with
  | nm i => cases h; rw [lk_st1, if_neg]; exact fun e => n (by rw [e.1]; exact List.mem_cons_self)
  | tp is => cases d with
    | tup ds => exact bindL_lk is ds env env' j h n
    | _ => cases h
  | bad => cases h
theorem lk_wipe_out {env : Env} {i : Nat} : ∀ {vs : List Nat}, i ∉ vs → lk (wipeE env vs) i = lk env i
  | [], _ => rfl
  | v :: vs, h => by
    rw [wipeE, lk_st1, if_neg (fun e => h (by rw [e.1]; exact List.mem_cons_self)), lk_wipe_out fun z => h (List.mem_cons_of_mem _ z)]
theorem wipe_at {σ : L2.St} {i : Nat} : ∀ {vs : List Nat}, i ∈ vs → i < σ.length → (wipe σ vs)[i]? = some none
  | v :: vs, h, l => by
    rw [wipe]
    by_cases e : v = i
    · rw [e, List.getElem?_set_self (by rw [wipe_length]; exact l)]
    · rw [List.getElem?_set_ne e]
      exact wipe_at ((List.mem_cons.mp h).resolve_left (Ne.symm e)) l
theorem wipe_eq {σ σ2 : L2.St} {vs : List Nat} (hs : ∀ j, j ∉ vs → σ2[j]? = (wipe σ vs)[j]?) (hl : σ2.length = σ.length) : wipe σ2 vs = wipe σ vs := by
  apply List.ext_getElem?
  intro j
  by_cases h : j ∈ vs
  · by_cases l : j < σ.length
    · rw [wipe_at h l, wipe_at h (by rw [hl]; exact l)]
    · rw [List.getElem?_eq_none (by rw [wipe_length]; omega), List.getElem?_eq_none (by rw [wipe_length]; omega)]
  · rw [wipe_get h, hs j h]

/-! ### the rule -/
theorem Wn.noRaise {α : Type} {P : α → DS → Prop} {L L' : Str → List D → DS → Prop} {r : Res α} (w : Wn P L (Res.noRaise r)) : Wn P L' r := by
  cases r with
  | ok a st => exact w
  | raise c fs st => exact w.elim
  | stuck => exact w.elim
theorem PG.ex {X : Cx} {e : Expr} {ι : Type} {t : ι → TG} (h : ∀ i, PG X e (t i)) : PG X e fun v σ H Q => ∃ i, t i v σ H Q := ⟨fun pins s σ H v u Q I r ⟨i, q⟩ => (h i).run pins s σ H v u Q I r q⟩
theorem PTs.ex {X : Cx} {e : List Expr} {ι : Type} {t : ι → TT} (h : ∀ i, PTs X e (t i)) : PTs X e fun σ H Q => ∃ i, t i σ H Q := ⟨fun pins s σ H Q I ⟨i, q⟩ => (h i).run pins s σ H Q I q⟩
theorem PE.ex {X : Cx} {e : Expr} {ι : Type} {t : ι → TE} (h : ∀ i, PE X e (t i)) : PE X e fun σ H Q => ∃ i, t i σ H Q := ⟨fun pins s σ H Q I ⟨i, q⟩ => (h i).run pins s σ H Q I q⟩
theorem PI.ex {X : Cx} {tg e : Expr} {ι : Type} {t : ι → TI} (h : ∀ i, PI X tg e (t i)) : PI X tg e fun σ H Q => ∃ i, t i σ H Q := ⟨fun pins s σ H Q I ⟨i, q⟩ => (h i).run pins s σ H Q I q⟩
/-- a block's entry: nothing may be raised -/
abbrev GB := { g : Gh // g.E0 = fun _ _ _ => False }
section
variable {W : Wd} {X : Cx} {g : Gh} {Ω : Nat → Bool} {pos : Pos}
theorem stp_nil : PTs X [] (tT W g Ω fun _ st => .ok true st) := ⟨fun pins s σ H Q I ⟨env, F, st, gr, z⟩ => pts_nil.run pins s σ H Q I (z H F gr (Fx.refl H F))⟩
theorem stp_one {c : Expr} {f : Env → DS → Res Bool} (h : ST W X g Ω c f) : PTs X [c] (tT W g Ω f) := pts_one h
/-- one turn of a comprehension -/
def turnC (own : List Nat) (tg : Tg) (fc : Env → DS → Res Bool) (fe : Fe) (env : Env) (d : D) (st : DS) : Res (Option D) :=
  Res.noRaise ((ofO (bindT tg d (wipeE env own)) st).bind fun env st => (fc env st).bind fun k st => if k then (fe env st).bind fun x st => .ok (some x) st else .ok none st)
theorem drop_cons {α : Type} {ds : List α} {i : Nat} (h : i < ds.length) : ds.drop i = ds[i] :: ds.drop (i + 1) := (List.drop_eq_getElem_cons h)
theorem tlc_of {vs : List Nat} {t : Tg} {fi : Fs} {fc : Env → DS → Res Bool} {fe : Fe} (ht : ∀ i ∈ tgs t, i ∈ vs) {σ : L2.St} {H : Hp} {Q : VK}
    (z : tE W g Ω .own (fun env st => (fi env st).bind fun ds st => (mapR (turnC vs t fc fe env) ds st).bind fun rs st => .ok (.lst rs) st) σ H Q) :
    tLc (tI W g Ω fi) (fun v σ H Q => ∃ g' : GB, tG W g'.1 (fun i => Ω i && !vs.contains i) t v σ H Q) (fun σ H Q => ∃ g' : GB, tT W g'.1 (fun i => Ω i && !vs.contains i) fc σ H Q)
      (fun σ H Q => ∃ g' : GB, tE W g'.1 (fun i => Ω i && !vs.contains i) .rep fe σ H Q) vs σ H Q := by
  obtain ⟨env, F, st, gr, z⟩ := z
  refine ⟨env, F, st, gr, z.bind.mono fun ds st1 z J H1 F1 g1 fx1 jok hlen Da hD => ?_⟩
  have hD0 : H Da = none := by
    cases q : H Da with
    | none => rfl
    | some u => exact absurd hD (fx1.there Da (by rw [q]; simp))
  have no := g1.newOwn hD
  have h0 := g1.free0 hD
  refine ⟨fun i m H2 => m = ds.length - i ∧ i ≤ ds.length ∧ ∃ acc rs F2 st2, H2 Da = some (.lst acc) ∧ F2 Da = none ∧ GR W g Ω σ H2 env F2 st2 ∧ Le F1 F2 ∧ Fx H F H2 F2 ∧ Reps W F2 acc rs ∧ acc.length ≤ i ∧
    Wn (fun rest st' => PstE W g Ω .own σ H F env Q (.lst (rs ++ rest)) st') (Lets W g) (mapR (turnC vs t fc fe env) (ds.drop i) st2), ⟨ds.length, rfl, Nat.zero_le _, [], [], F1, st1, L2.upd_same, g1.free hD, g1.alloc hD, Le.refl _, fx1.trans (Fx.alloc hD), .nil, Nat.le_refl _, z.bind⟩, ?_⟩
  rintro i m H2 ⟨rfl, hi, acc, rs, F2, st2, a1, a2, a3, a4, a5, a6, a7, a8⟩
  obtain ⟨j1, j2⟩ := jok i Ω σ H2 env F2 st2 a3 a4
  by_cases hlt : i < ds.length
  · refine .inr ?_
    obtain ⟨j1, j3⟩ := j1 ds[i] (by simp [hlt])
    refine ⟨j1, fun H3 => ∃ acc rs F3 st3, H3 Da = some (.lst acc) ∧ F3 Da = none ∧ GR W g Ω σ H3 env F3 st3 ∧ Le F1 F3 ∧ Fx H F H3 F3 ∧ Reps W F3 acc rs ∧ acc.length ≤ i + 1 ∧
      Wn (fun rest st' => PstE W g Ω .own σ H F env Q (.lst (rs ++ rest)) st') (Lets W g) (mapR (turnC vs t fc fe env) (ds.drop (i + 1)) st3), fun H' n => ⟨ds.length - (i + 1), by omega, rfl, hlt, n⟩, fun x H3 y => ?_⟩
    obtain ⟨kp, F3, g3, fx3, r3⟩ := j3 x H3 y
    have b1 := kp Da _ a1
    have b2 : F3 Da = none := by
      cases q : F3 Da with
      | none => rfl
      | some u =>
        rcases fx3.new Da u q with z | z
        · rw [a2] at z; cases z
        · rw [a1] at z; cases z
    rw [drop_cons hlt] at a8
    have a8 := a8.bind
    have en := g3.enter vs
    obtain ⟨env4, e4, a8⟩ := Wn.ofO (Wn.bind (Wn.noRaise (L' := Lets W (atB (fun i => Ω i && !vs.contains i) σ env H3 F3)) a8))
    refine ⟨⟨atB (fun i => Ω i && !vs.contains i) σ env H3 F3, rfl⟩, wipeE env vs, F3, st2, ds[i], env4, en, r3, e4, fun σ4 g4 k4 l4 => ⟨?_, ?_⟩⟩
    · exact wipe_eq (fun j hj => k4 j fun z => hj (ht j z)) (by rw [l4, wipe_length])
    have k5 : ∀ j, j ∉ vs → σ4[j]? = σ[j]? := fun j hj => by rw [k4 j fun z => hj (ht j z), wipe_get hj]
    have k6 : ∀ j, j ∉ vs → lk env4 j = lk env j := fun j hj => by rw [bindT_lk e4 fun z => hj (ht j z), lk_wipe_out hj]
    refine ⟨⟨atB (fun i => Ω i && !vs.contains i) σ env H3 F3, rfl⟩, env4, F3, st2, g4, a8.bind.mono fun k st5 a8 H5 F5 g5 fx5 => ?_⟩
    have g6 := g3.leave g5 k5 k6
    obtain ⟨c1, c2⟩ := g3.leaveD g5 b1 b2 h0 no
    cases k with
    | false =>
      rw [if_neg (by decide)] at a8
      show if false = true then _ else _
      rw [if_neg (by decide)]
      refine ⟨acc, rs, F5, st5, c1, c2, g6, (a4.trans fx3.le).trans fx5.le, (a5.trans fx3).trans fx5, Reps.mono (fx3.le.trans fx5.le) a6, by omega, a8.bind⟩
    | true =>
      rw [if_pos rfl] at a8
      show if true = true then _ else _
      rw [if_pos rfl]
      refine ⟨⟨atB (fun i => Ω i && !vs.contains i) σ env H3 F3, rfl⟩, env4, F5, st5, g5, a8.bind.mono fun x st6 a8 y H6 F6 g6 fx6 r6 => ?_⟩
      have g7 := g3.leave g6 k5 k6
      obtain ⟨d1, d2⟩ := g3.leaveD g6 b1 b2 h0 no
      have le := fx3.le.trans (fx5.le.trans fx6.le)
      have fxx := ((a5.trans fx3).trans fx5).trans fx6
      refine ⟨acc, d1, by omega, acc ++ [y], rs ++ [x], F6, st6, L2.upd_same, d2, g7.write (fun _ z => nomatch z) (fun _ _ z => by unfold LamX.CodeO at z; cases z) d1 d2 h0 no, a4.trans le, ⟨fxx.le, fxx.new, fun a h => ?_⟩, (Reps.mono le a6).append (.cons r6 .nil), by rw [List.length_append]; simp; omega, ?_⟩
      · by_cases e : a = Da
        · rw [e, L2.upd_same]; simp
        · rw [L2.upd_ne e]; exact fxx.there a h
      · exact (Wn.bind a8).mono fun rest st' z => by rw [List.append_assoc]; exact z
  · have e : i = ds.length := by omega
    subst e
    rw [List.drop_length] at a8
    refine .inl ⟨j2 (Nat.le_refl _), ?_⟩
    have a8 : PstE W g Ω .own σ H F env Q (.lst (rs ++ [])) st2 := a8
    rw [List.append_nil] at a8
    exact a8 (.ref Da) H2 F2 a3 a5 ⟨Da, acc, rfl, a1, a2, hD0, a6⟩
end
end Ev
/-! Ev9: statements: the evaluator, the state's moves, the rules. -/
namespace Ev
open PySem PySem.Spec PyProof.Rows L2

/-! ### loops -/
inductive Ctl | nx | ct | ret (d : D)
abbrev Sta := Env × List Nat
abbrev Out := Sta × Ctl
def foldF (f : D → Sta → DS → Res Out) : List D → Sta → DS → Res Out
  | [], s, st => .ok (s, .nx) st
  | d :: ds, s, st => (f d s st).bind fun r st => match r.2 with
    | .ret x => .ok (r.1, .ret x) st
    | _ => foldF f ds r.1 st
section
variable {α β : Type}
def loopN (step : α → DS → Res (α ⊕ β)) : Nat → α → DS → Res β
  | 0, _, _ => .stuck
  | n + 1, a, st => (step a st).bind fun r st => match r with
    | .inl a => loopN step n a st
    | .inr b => .ok b st
def isStuck : Res β → Bool
  | .stuck => true
  | _ => false
theorem loopN_succ (step : α → DS → Res (α ⊕ β)) : ∀ (n : Nat) (a : α) (st : DS), isStuck (loopN step n a st) = false → loopN step (n + 1) a st = loopN step n a st
  | 0, _, _, h => by cases h
  | n + 1, a, st, h => by
    show (step a st).bind _ = (step a st).bind _
    cases hq : step a st with
    | ok r st' =>
      cases r with
      | inl a' =>
        rw [loopN, hq] at h
        exact loopN_succ step n a' st' h
      | inr b => rfl
    | raise c fs st' => rfl
    | stuck => rfl
theorem loopN_le (step : α → DS → Res (α ⊕ β)) {n m : Nat} (h : n ≤ m) {a : α} {st : DS} (hs : isStuck (loopN step n a st) = false) : loopN step m a st = loopN step n a st := by
  induction h with
  | refl => rfl
  | step h ih => rw [loopN_succ _ _ _ _ (by rw [ih]; exact hs), ih]
open Classical in
/-- a loop that ends, else stuck -/
noncomputable def loopR (step : α → DS → Res (α ⊕ β)) (a : α) (st : DS) : Res β :=
  if h : ∃ n, isStuck (loopN step n a st) = false then loopN step (Classical.choose h) a st else .stuck
theorem loopR_eq {step : α → DS → Res (α ⊕ β)} {n : Nat} {a : α} {st : DS} (h : isStuck (loopN step n a st) = false) : loopR step a st = loopN step n a st := by
  have e : ∃ n, isStuck (loopN step n a st) = false := ⟨n, h⟩
  unfold loopR
  rw [dif_pos e]
  rcases Nat.le_total n (Classical.choose e) with l | l
  · exact loopN_le step l h
  · exact (loopN_le step l (Classical.choose_spec e)).symm
/-- one turn more -/
theorem loopR_unroll (step : α → DS → Res (α ⊕ β)) (a : α) (st : DS) : loopR step a st = (step a st).bind fun r st => match r with
    | .inl a => loopR step a st
    | .inr b => .ok b st := by
  by_cases e : ∃ n, isStuck (loopN step n a st) = false
  · obtain ⟨n, h⟩ := e
    rw [loopR_eq h]
    cases n with
    | zero => cases h
    | succ n =>
      rw [loopN] at h ⊢
      cases hq : step a st with
      | ok r st' =>
        cases r with
        | inl a' =>
          rw [hq] at h
          exact (loopR_eq h).symm
        | inr b => rfl
      | raise c fs st' => rfl
      | stuck => rfl
  · have q : loopR step a st = .stuck := by unfold loopR; rw [dif_neg e]
    rw [q]
    cases hq : step a st with
    | ok r st' =>
      cases r with
      | inl a' =>
        show _ = loopR step a' st'
        unfold loopR
        rw [dif_neg]
        rintro ⟨n, h⟩
        exact e ⟨n + 1, by rw [loopN, hq]; exact h⟩
      | inr b => exact absurd ⟨1, by rw [loopN, hq]; rfl⟩ e
    | raise c fs st' => exact absurd ⟨1, by rw [loopN, hq]; rfl⟩ e
    | stuck => rfl
/-- from what the loop gives: turns that come to an end -/
theorem loopR_ends {step : α → DS → Res (α ⊕ β)} {a : α} {st : DS} (h : isStuck (loopR step a st) = false) : ∃ n, isStuck (loopN step n a st) = false := by
  by_cases e : ∃ n, isStuck (loopN step n a st) = false
  · exact e
  · unfold loopR at h
    rw [dif_neg e] at h
    cases h
end

/-! ### variables that are read as they are -/
mutual
def varsE : E → List Nat
  | .var i => [i]
  | .tup es => varsEs es | .lst es => varsEs es
  | .bin _ a b => varsE a ++ varsE b
  | .neg a => varsE a | .not a => varsE a
  | .cmp _ a b => varsE a ++ varsE b
  | .cmp2 _ _ a b c => varsE a ++ varsE b ++ varsE c
  | .and a b => varsE a ++ varsE b
  | .or a b => varsE a ++ varsE b
  | .ite c a b => varsE c ++ varsE a ++ varsE b
  | .ix a i => varsE a ++ varsE i
  | .slc a lo hi => varsE a ++ varsEs lo ++ varsEs hi
  | .fld a _ => varsE a
  | .call _ es => varsEs es
  | .callk _ es kes _ => varsEs es ++ varsEs kes
  | .callv i es => i :: varsEs es
  | .b1 _ a => varsE a
  | .gcd a b => varsE a ++ varsE b
  | .min2 a b => varsE a ++ varsE b
  | .max2 a b => varsE a ++ varsE b
  | .isin a _ => varsE a
  | .listI i => varsI i
  | .index a b => varsE a ++ varsE b
  | .join a b => varsE a ++ varsE b
  | .upper a => varsE a
  | .get a k d => varsE a ++ varsE k ++ varsE d
  | .comp own tg i cs elt => tgs tg ++ varsI i ++ varsEs cs ++ varsE elt
  | .comp2 own tg i cs tg2 i2 cs2 elt => tgs tg ++ varsI i ++ varsEs cs ++ tgs tg2 ++ varsI i2 ++ varsEs cs2 ++ varsE elt
  | .lam b caps => caps
  | .caught caps _ => caps
  | .cgv i vs => i :: vs
  | .dr i _ => [i] | .gne i => [i] | .popg i => [i]
  | _ => []
def varsEs : Es → List Nat
  | .nil => []
  | .cons e es => varsE e ++ varsEs es
def varsI : I → List Nat
  | .e e => varsE e | .range1 a => varsE a | .range2 a b => varsE a ++ varsE b | .zip a b => varsE a ++ varsE b | .enum e => varsE e
end
def frz (own vs : List Nat) : List Nat := own.filter fun i => !vs.contains i
/-- x is only held by its slot -/
def claim (own : List Nat) (i : Nat) (c : Bool) (d : D) : List Nat := if c && isM d then i :: own else own

/-! ### the evaluator of statements -/
def evT (g : G) (c : E) (env : Env) (st : DS) : Res Bool := (evE g c env st).bind fun x st => ofO (asB x) st
def asL : D → Option (List D)
  | .lst ds => some ds
  | _ => none
def drPutS (f : Nat) (k : Int) (st : DS) : Option DS := match f with
  | 0 => some { st with rest := k }
  | 1 => some { st with turn := k }
  | _ => none
def setL (ds : List D) (k : Int) (d : D) : Option (List D) := match ixN ds.length k with
  | some j => some (ds.set j d)
  | none => none
mutual
noncomputable def evS (g : G) : S → Sta → DS → Res Out
  | .bad, _, _ => .stuck
  | .asg (.nm i) c e, (env, own), st => (evE g e env st).bind fun d st => .ok ((st1 env i (some d), claim (frz own (i :: varsE e)) i c d), .nx) st
  | .asg tg _ e, (env, own), st => (evE g e env st).bind fun d st => (ofO (bindT tg d env) st).bind fun env st => .ok ((env, frz own (tgs tg ++ varsE e)), .nx) st
  | .par i j a b, (env, own), st => (evE g a env st).bind fun x st => (evE g b env st).bind fun y st => .ok ((st1 (st1 env i (some x)) j (some y), frz own (i :: j :: (varsE a ++ varsE b))), .nx) st
  | .set i ix e, (env, own), st => if (frz own (varsE ix ++ varsE e)).contains i then (evE g e env st).bind fun d st => (ofO (lk env i) st).bind fun l st => (ofO (asL l) st).bind fun ds st => (evE g ix env st).bind fun k st =>
        (ofO (asI k) st).bind fun k st => (ofO (setL ds k d) st).bind fun ds st => .ok ((st1 env i (some (.lst ds)), frz own (varsE ix ++ varsE e)), .nx) st
      else .stuck
  | .app i e, (env, own), st => if (frz own (varsE e)).contains i then (ofO (lk env i) st).bind fun l st => (ofO (asL l) st).bind fun ds st => (evE g e env st).bind fun d st =>
        if ds.length ≤ 1000000 then .ok ((st1 env i (some (.lst (ds ++ [d]))), frz own (varsE e)), .nx) st else .stuck
      else .stuck
  | .ext i e, (env, own), st => if (frz own (varsE e)).contains i then (ofO (lk env i) st).bind fun l st => (ofO (asL l) st).bind fun ds st => (evE g e env st).bind fun d st => (ofO (asL d) st).bind fun es st =>
        if ds.length + es.length ≤ 1000000 then .ok ((st1 env i (some (.lst (ds ++ es))), frz own (varsE e)), .nx) st else .stuck
      else .stuck
  | .pop tg i, (env, own), st => if (frz own (tgs tg)).contains i then (ofO (lk env i) st).bind fun l st => (ofO (asL l) st).bind fun ds st => (ofO ds.getLast? st).bind fun d st =>
        (ofO (bindT tg d (st1 env i (some (.lst ds.dropLast)))) st).bind fun env st => .ok ((env, frz own (tgs tg)), .nx) st
      else .stuck
  | .exp e, (env, own), st => (evE g e env st).bind fun _ st => .ok ((env, frz own (varsE e)), .nx) st
  | .ret e, (env, own), st => (evE g e env st).bind fun d st => .ok ((env, own), .ret d) st
  | .retN, s, st => .ok (s, .ret .non) st
  | .pass, s, st => .ok (s, .nx) st
  | .cont, s, st => .ok (s, .ct) st
  | .ite c a b, (env, own), st => (evT g c env st).bind fun k st => if k then evSs g a (env, frz own (varsE c)) st else evSs g b (env, frz own (varsE c)) st
  | .for_ tg i b, (env, own), st => (evI g i env st).bind fun ds st =>
      foldF (fun d s st => (ofO (bindT tg d s.1) st).bind fun env st => evSs g b (env, frz s.2 (tgs tg)) st) ds (env, frz own (varsI i)) st
  | .while_ c b, s, st => loopR (fun (s : Sta) st => (evT g c s.1 st).bind fun k st => if k then (evSs g b (s.1, frz s.2 (varsE c)) st).bind fun r st => match r.2 with
        | .ret x => .ok (.inr (r.1, .ret x)) st
        | _ => .ok (.inl r.1) st
      else .ok (.inr ((s.1, frz s.2 (varsE c)), .nx)) st) s st
  | .raise c es, (env, _), st => (evEs g es env st).bind fun ds st => .raise c ds st
  | .raise0 c, _, st => .raise c [] st
  | .drSet i f e, (env, own), st => (evE g e env st).bind fun d st => (ofO (asI d) st).bind fun k st => if isDrw (lk env i) then (ofO (drPutS f k st) st).bind fun st' _ => .ok ((env, frz own (i :: varsE e)), .nx) st' else .stuck
noncomputable def evSs (g : G) : Ss → Sta → DS → Res Out
  | .nil, s, st => .ok (s, .nx) st
  | .cons a ss, s, st => (evS g a s st).bind fun r st => match r.2 with
    | .nx => evSs g ss r.1 st
    | _ => .ok r st
end
/-- what a body gives -/
noncomputable def evB (g : G) (b : Ss) (env : Env) (st : DS) : Res D := (evSs g b (env, []) st).bind fun r st => match r.2 with
  | .ret d => .ok d st
  | .nx => .ok .non st
  | .ct => .stuck
end Ev
/-! Ev10: the rules of statements. -/
namespace Ev
open PySem PySem.Spec PyProof.Rows L2

def Ωo (own : List Nat) : Nat → Bool := fun i => own.contains i
section
variable {W : Wd} {g : Gh} {Ω Ω' : Nat → Bool} {σ : L2.St} {H H' : Hp} {env : Env} {F F' : Hp} {st : DS} {p : Addr} {o : HO} {v : V} {d : D} {i : Nat}
/-- a claim less: nothing stands there that one could own -/
theorem GR.less (r : GR W g Ω σ H env F st) (h : ∀ j, Ω' j = true → Ω j = true) (n : ∀ j d, Ω j = true → Ω' j = false → lk env j = some d → isM d = true → False) : GR W g Ω' σ H env F st := by
  refine ⟨r.keep, r.sub, r.nmut, r.old, r.new, r.inv, r.m0, r.len, fun j e hj => ?_, fun j k w dj dk oj ok => r.sep j k w dj dk (h j oj) (h k ok), r.tb⟩
  obtain ⟨v, h1, h2⟩ := r.slot j e hj
  refine ⟨v, h1, ?_⟩
  by_cases oj : Ω' j = true
  · rw [if_pos oj]; rw [if_pos (h j oj)] at h2; exact h2
  · rw [if_neg oj]
    by_cases o' : Ω j = true
    · rw [if_pos o'] at h2
      have m := fun m => n j e o' (by simpa using oj) hj m
      cases e with
      | lst _ => exact (m rfl).elim
      | dK _ => exact (m rfl).elim
      | dT _ => exact (m rfl).elim
      | _ => exact h2
    · rw [if_neg o'] at h2; exact h2
/-- one slot is frozen: what it holds is known for ever -/
theorem GR.freeze1 (r : GR W g Ω σ H env F st) (i : Nat) : ∃ F', GR W g (fun j => Ω j && (j != i)) σ H env F' st ∧ Le F F' := by
  by_cases c : Ω i = true ∧ ∃ d, lk env i = some d ∧ isM d = true
  · obtain ⟨oi, d, hi, m⟩ := c
    obtain ⟨v, h1, h2⟩ := r.slot i d hi
    rw [if_pos oi] at h2
    obtain ⟨p, o, e1, e2, e3, e4⟩ := h2.isM_inv m
    subst e1
    have nm : ¬ W.mt p := fun z => r.m0 p z e4
    have ll : Le F (L2.upd F p o) := fun a u h => by rw [L2.upd_ne (ne_of_none h e3)]; exact h
    refine ⟨L2.upd F p o, ⟨r.keep, fun a u h => ?_, fun a h => ?_, r.old.trans ll, fun a u h => ?_, r.inv, r.m0, r.len, fun j e hj => ?_, fun j k w dj dk oj ok => ?_, r.tb.know (h2.nf m e2)⟩, ll⟩
    · by_cases e : a = p
      · subst e; rw [L2.upd_same] at h; cases h; exact .inl e2
      · rw [L2.upd_ne e] at h; exact r.sub a u h
    · rw [L2.upd_ne (a := p) (b := a) (fun e : a = p => nm (by rw [← e]; exact h))]; exact r.nmut a h
    · by_cases e : a = p
      · subst e; exact .inr e4
      · rw [L2.upd_ne e] at h; exact r.new a u h
    · obtain ⟨w, h3, h4⟩ := r.slot j e hj
      refine ⟨w, h3, ?_⟩
      by_cases ej : j = i
      · subst ej
        rw [hi] at hj; cases hj
        rw [h1] at h3; cases h3
        show if (Ω j && (j != j)) = true then _ else _
        rw [if_neg (by simp)]
        cases d with
        | lst ds => obtain ⟨p', vs, q1, q2, _, _, q3⟩ := h2; cases q1; rw [e2] at q2; cases q2; exact .lst L2.upd_same (q3.mono ll)
        | dK ds => obtain ⟨p', vs, q1, q2, _, _, q3, q4⟩ := h2; cases q1; rw [e2] at q2; cases q2; exact .dK L2.upd_same q3 (q4.mono ll)
        | dT ds => obtain ⟨p', vs, q1, q2, _, _, q3, q4⟩ := h2; cases q1; rw [e2] at q2; cases q2; exact .dT L2.upd_same q3 (q4.mono ll)
        | _ => cases m
      · have cc : (Ω j && (j != i)) = Ω j := by simp [ej]
        show if (Ω j && (j != i)) = true then _ else _
        rw [cc]
        split
        · rename_i oj
          rw [if_pos oj] at h4
          refine h4.mono ll fun q hm hv => ?_
          have nq : q ≠ p := fun z => ej (r.sep j i w e d oj oi hj hi hm m h3 (by rw [h1, hv, z]))
          rw [L2.upd_ne nq]
          obtain ⟨q', o', f1, _, f3, _⟩ := h4.isM_inv hm
          rw [hv] at f1; cases f1
          exact f3
        · rename_i oj
          rw [if_neg oj] at h4
          exact h4.mono ll
    · have oj : (Ω j && (j != i)) = true := oj
      have ok : (Ω k && (k != i)) = true := ok
      rw [Bool.and_eq_true] at oj ok
      exact r.sep j k w dj dk oj.1 ok.1
  · refine ⟨F, r.less (fun j h => ?_) (fun j d h1 h2 h3 h4 => ?_), Le.refl _⟩
    · have h : (Ω j && (j != i)) = true := h
      rw [Bool.and_eq_true] at h; exact h.1
    · have h2 : (Ω j && (j != i)) = false := h2
      rw [h1, Bool.true_and] at h2
      have e : j = i := by simpa using h2
      subst e
      exact c ⟨h1, d, h3, h4⟩
theorem GR.omega (r : GR W g Ω σ H env F st) (e : Ω = Ω') : GR W g Ω' σ H env F st := e ▸ r
theorem GR.freezeL : ∀ {vs : List Nat} {Ω : Nat → Bool} {F : Hp}, GR W g Ω σ H env F st → ∃ F', GR W g (fun j => Ω j && !vs.contains j) σ H env F' st ∧ Le F F'
  | [], Ω, F, r => ⟨F, r.omega (by funext j; simp), Le.refl _⟩
  | i :: vs, Ω, F, r => by
    obtain ⟨F1, r1, l1⟩ := r.freeze1 i
    obtain ⟨F2, r2, l2⟩ := r1.freezeL (vs := vs)
    exact ⟨F2, r2.omega (by
      funext j
      by_cases e : j = i
      · subst e; simp
      · have e2 : (j == i) = false := by simpa using e
        have e3 : (j != i) = true := by simpa using e
        rw [List.contains_cons, e2, e3]; simp), l1.trans l2⟩
theorem Ωo_frz (own vs : List Nat) : Ωo (frz own vs) = fun j => Ωo own j && !vs.contains j := by
  funext j
  unfold Ωo frz
  rw [Bool.eq_iff_iff]
  simp
theorem GR.freeze {own : List Nat} (vs : List Nat) (r : GR W g (Ωo own) σ H env F st) : ∃ F', GR W g (Ωo (frz own vs)) σ H env F' st ∧ Le F F' := by
  obtain ⟨F', r, l⟩ := r.freezeL (vs := vs)
  exact ⟨F', r.omega (Ωo_frz own vs).symm, l⟩
theorem frz_out {own vs : List Nat} {i : Nat} (h : i ∈ vs) : Ωo (frz own vs) i = false := by
  rw [Ωo_frz]
  simp [h]
/-- a value of its own is stored -/
theorem GR.put (r : GR W g Ω σ H env F st) (h : Own W g.H0 H F v d) (oi : Ω i = false) (n : ∀ p, isM d = true → v = .ref p → ∀ j e, Ω j = true → lk env j = some e → isM e = true → σ[j]? ≠ some (some (.ref p))) :
    GR W g (fun j => Ω j || (j == i)) (σ.set i (some v)) H (st1 env i (some d)) F st := by
  refine ⟨r.keep, r.sub, r.nmut, r.old, r.new, r.inv, r.m0, by rw [st1_length, List.length_set]; exact r.len, fun j e hj => ?_, fun j k w dj dk oj ok h1 h2 m1 m2 s1 s2 => ?_, r.tb⟩
  · rw [lk_st1] at hj
    by_cases ej : j = i
    · subst ej
      by_cases l : j < env.length
      · rw [if_pos ⟨rfl, l⟩] at hj
        cases hj
        refine ⟨v, List.getElem?_set_self (by rw [← r.len]; exact l), ?_⟩
        show if (Ω j || (j == j)) = true then _ else _
        rw [if_pos (by simp)]
        exact h
      · rw [if_neg (fun z => l z.2)] at hj
        exact absurd (lk_lt hj) l
    · rw [if_neg (fun z => ej z.1)] at hj
      obtain ⟨w, h1, h2⟩ := r.slot j e hj
      refine ⟨w, by rw [List.getElem?_set_ne (Ne.symm ej)]; exact h1, ?_⟩
      have cc : (Ω j || (j == i)) = Ω j := by simp [ej]
      show if (Ω j || (j == i)) = true then _ else _
      rw [cc]
      exact h2
  · rw [lk_st1] at h1 h2
    have self : ∀ {q : Nat} {e : D} {w : V}, q = i → (if q = i ∧ i < env.length then some d else lk env q) = some e → (σ.set i (some v))[q]? = some (some w) → e = d ∧ w = v ∧ i < env.length := fun {q e w} eq he hs => by
      subst eq
      by_cases l : q < env.length
      · rw [if_pos ⟨rfl, l⟩] at he
        cases he
        rw [List.getElem?_set_self (by rw [← r.len]; exact l)] at hs
        cases hs
        exact ⟨rfl, rfl, l⟩
      · rw [if_neg (fun z => l z.2)] at he
        exact absurd (lk_lt he) l
    have oth : ∀ {q : Nat} {e : D} {w : V}, q ≠ i → (Ω q || (q == i)) = true → (if q = i ∧ i < env.length then some d else lk env q) = some e → (σ.set i (some v))[q]? = some (some w) → Ω q = true ∧ lk env q = some e ∧ σ[q]? = some (some w) := fun {q e w} nq oq he hs => by
      rw [if_neg (fun z => nq z.1)] at he
      rw [List.getElem?_set_ne (Ne.symm nq)] at hs
      have e2 : (q == i) = false := by simpa using nq
      rw [e2, Bool.or_false] at oq
      exact ⟨oq, he, hs⟩
    by_cases ej : j = i
    · by_cases ek : k = i
      · rw [ej, ek]
      · obtain ⟨e1, e2, l⟩ := self ej h1 s1
        obtain ⟨f1, f2, f3⟩ := oth ek ok h2 s2
        subst e1 e2
        obtain ⟨p, _, q1, _⟩ := h.isM_inv m1
        exact absurd (by rw [f3, q1]) (n p m1 q1 k dk f1 f2 m2)
    · obtain ⟨f1, f2, f3⟩ := oth ej oj h1 s1
      by_cases ek : k = i
      · obtain ⟨e1, e2, l⟩ := self ek h2 s2
        subst e1 e2
        obtain ⟨p, _, q1, _⟩ := h.isM_inv m2
        exact absurd (by rw [f3, q1]) (n p m2 q1 j dj f1 f2 m1)
      · obtain ⟨g1, g2, g3⟩ := oth ek ok h2 s2
        exact r.sep j k w dj dk f1 g1 f2 g2 m1 m2 f3 g3
/-- a list that only its slot holds is written -/
theorem GR.rewrite {ds ds' : List D} {vs' : List V} (r : GR W g Ω σ H env F st) (oi : Ω i = true) (hi : lk env i = some (.lst ds)) (hs : σ[i]? = some (some (.ref p))) (hr : Reps W F vs' ds') :
    GR W g Ω σ (L2.upd H p (.lst vs')) (st1 env i (some (.lst ds'))) F st := by
  obtain ⟨v, h1, h2⟩ := r.slot i _ hi
  rw [hs] at h1; cases h1
  rw [if_pos oi] at h2
  obtain ⟨p', vs, e1, e2, e3, e4, e5⟩ := h2
  cases e1
  have hm : ¬ W.mt p := fun z => r.m0 p z e4
  have li := lk_lt hi
  refine ⟨fun a u h m => ?_, fun a u h => ?_, r.nmut, r.old, r.new, W.stable _ _ _ r.inv (fun a h => L2.upd_ne fun e => hm (e ▸ h)) (fun a c q h => by
    by_cases e : a = p
    · rw [e, e2] at h; cases h
    · rw [L2.upd_ne e]; exact h), r.m0, by rw [st1_length]; exact r.len, fun j e hj => ?_, fun j k w dj dk oj ok q1 q2 m1 m2 s1 s2 => ?_, r.tb.upd fun c q z => by rw [e2] at z; cases z⟩
  · rw [L2.upd_ne (ne_of_none h e4)]; exact r.keep a u h m
  · have ne := ne_of_none h e3
    exact (r.sub a u h).keep fun o z => by rw [L2.upd_ne ne]; exact z
  · rw [lk_st1] at hj
    by_cases ej : j = i
    · subst ej
      rw [if_pos ⟨rfl, li⟩] at hj
      cases hj
      refine ⟨.ref p, hs, ?_⟩
      rw [if_pos oi]
      exact ⟨p, vs', rfl, L2.upd_same, e3, e4, hr⟩
    · rw [if_neg (fun z => ej z.1)] at hj
      obtain ⟨w, h1, h2⟩ := r.slot j e hj
      refine ⟨w, h1, ?_⟩
      split
      · rename_i oj
        rw [if_pos oj] at h2
        by_cases m : isM e = true
        · obtain ⟨q, o', f1, f2, f3, f4⟩ := h2.isM_inv m
          have ne : q ≠ p := fun z => ej (r.sep j i w e (.lst ds) oj oi hj hi m rfl h1 (by rw [hs, f1, z]))
          cases e with
          | lst ds => obtain ⟨p', ws, e1', a1, a2⟩ := h2; rw [f1] at e1'; cases e1'; exact ⟨q, ws, f1, by rw [L2.upd_ne ne]; exact a1, a2⟩
          | dK ds => obtain ⟨p', ws, e1', a1, a2⟩ := h2; rw [f1] at e1'; cases e1'; exact ⟨q, ws, f1, by rw [L2.upd_ne ne]; exact a1, a2⟩
          | dT ds => obtain ⟨p', ws, e1', a1, a2⟩ := h2; rw [f1] at e1'; cases e1'; exact ⟨q, ws, f1, by rw [L2.upd_ne ne]; exact a1, a2⟩
          | _ => cases m
        · cases e with
          | lst _ => exact absurd rfl m
          | dK _ => exact absurd rfl m
          | dT _ => exact absurd rfl m
          | _ => exact h2
      · rename_i oj
        rw [if_neg oj] at h2
        exact h2
  · have same : ∀ {q : Nat} {e : D}, lk (st1 env i (some (.lst ds'))) q = some e → isM e = true → ∃ e', lk env q = some e' ∧ isM e' = true := fun {q e} hq m => by
      rw [lk_st1] at hq
      split at hq
      · rename_i c
        exact ⟨_, by rw [c.1]; exact hi, rfl⟩
      · exact ⟨e, hq, m⟩
    obtain ⟨e1, a1, b1⟩ := same q1 m1
    obtain ⟨e2, a2, b2⟩ := same q2 m2
    exact r.sep j k w e1 e2 oj ok a1 a2 b1 b2 s1 s2
end

/-! ### the judgement of a statement -/
/-- what stands at the end -/
structure Fin (W : Wd) (g : Gh) (H F : Hp) (st : DS) : Prop where
  keep : ∀ a o, g.H0 a = some o → ¬ W.mt a → H a = some o
  sub : LeK F H
  nmut : ∀ a, W.mt a → F a = none
  old : Le g.F0 F
  new : ∀ a o, F a = some o → g.F0 a = some o ∨ g.H0 a = none
  inv : W.inv H st
  tb : TbOk H F
theorem GR.fin {W : Wd} {g : Gh} {Ω : Nat → Bool} {σ : L2.St} {H : Hp} {env : Env} {F : Hp} {st : DS} (r : GR W g Ω σ H env F st) : Fin W g H F st := ⟨r.keep, r.sub, r.nmut, r.old, r.new, r.inv, r.tb⟩
def PstS (W : Wd) (g : Gh) (F : Hp) (De : Ends) (r : Out) (st' : DS) : Prop := match r.2 with
  | .nx => ∀ σ' H' F', GR W g (Ωo r.1.2) σ' H' r.1.1 F' st' → Le F F' → De.nx σ' H'
  | .ct => ∀ σ' H' F', GR W g (Ωo r.1.2) σ' H' r.1.1 F' st' → Le F F' → De.ct σ' H'
  | .ret d => ∀ v H' F', Fin W g H' F' st' → Le F F' → Rep W F' v d → De.rt v H'
abbrev FS := Sta → DS → Res Out
def tS (W : Wd) (g : Gh) (f : FS) : TS := fun De σ H => ∃ env own F st, GR W g (Ωo own) σ H env F st ∧ Wn (PstS W g F De) (Lets W g) (f (env, own) st)
def SS (W : Wd) (X : Cx) (g : Gh) (s : Stmt) (f : FS) : Prop := PS X s (tS W g f)
def SSs (W : Wd) (X : Cx) (g : Gh) (s : List Stmt) (f : FS) : Prop := PSs X s (tS W g f)
theorem PS.imp {X : Cx} {s : Stmt} {t t' : TS} (h : PS X s t) (i : ∀ De σ H, t' De σ H → t De σ H) : PS X s t' := ⟨fun pins s σ H De I q => h.run pins s σ H De I (i _ _ _ q)⟩
theorem PSs.imp {X : Cx} {s : List Stmt} {t t' : TS} (h : PSs X s t) (i : ∀ De σ H, t' De σ H → t De σ H) : PSs X s t' := ⟨fun pins s σ H De I q => h.run pins s σ H De I (i _ _ _ q)⟩
section
variable {W : Wd} {X : Cx} {g : Gh} {pos : Pos} {F F' : Hp} {De : Ends} {r : Out} {st st' : DS}
theorem PstS.after (l : Le F F') (z : PstS W g F De r st') : PstS W g F' De r st' := by
  obtain ⟨s, c⟩ := r
  cases c with
  | nx => exact fun σ' H' F2 g2 l2 => z σ' H' F2 g2 (l.trans l2)
  | ct => exact fun σ' H' F2 g2 l2 => z σ' H' F2 g2 (l.trans l2)
  | ret d => exact fun σ' H' F2 g2 l2 => z σ' H' F2 g2 (l.trans l2)
theorem SS.stuck {s : Stmt} {f : FS} (h : ∀ a b, f a b = .stuck) : SS W X g s f := ⟨fun _ _ _ _ _ _ ⟨_, _, _, _, _, z⟩ => by rw [h] at z; exact z.elim⟩
theorem SS.congr {s : Stmt} {f f' : FS} (h : SS W X g s f) (q : ∀ s st, f' s st = f s st) : SS W X g s f' := (funext fun s => funext fun st => q s st : f' = f) ▸ h
theorem SSs.congr {s : List Stmt} {f f' : FS} (h : SSs W X g s f) (q : ∀ s st, f' s st = f s st) : SSs W X g s f' := (funext fun s => funext fun st => q s st : f' = f) ▸ h
theorem ss_nil : SSs W X g [] fun s st => .ok (s, .nx) st := PSs.imp pss_nil fun De σ H ⟨env, own, F, st, gr, z⟩ => z σ H F gr (Le.refl _)
theorem ss_cons {s : Stmt} {ss : List Stmt} {f h : FS} (a : SS W X g s f) (b : SSs W X g ss h) : SSs W X g (s :: ss) fun s st => (f s st).bind fun r st => match r.2 with
    | .nx => h r.1 st
    | _ => .ok r st :=
  PSs.imp (pss_cons a b) fun De σ H ⟨env, own, F, st, gr, z⟩ => ⟨env, own, F, st, gr, z.bind.mono fun ⟨s1, c⟩ st1 z => by
    cases c with
    | nx => exact fun σ' H' F' g' l => ⟨s1.1, s1.2, F', st1, g', Wn.mono z fun r st2 z => z.after l⟩
    | ct => exact z
    | ret d => exact z⟩
theorem ss_pass : SS W X g (.Pass pos) fun s st => .ok (s, .nx) st := PS.imp ps_pass fun De σ H ⟨env, own, F, st, gr, z⟩ => z σ H F gr (Le.refl _)
theorem ss_doc {x j p} : SS W X g (.Expr (.Constant (.str x) j p) pos) fun s st => .ok (s, .nx) st := PS.imp ps_doc fun De σ H ⟨env, own, F, st, gr, z⟩ => z σ H F gr (Le.refl _)
theorem ss_cont : SS W X g (.Continue pos) fun s st => .ok (s, .ct) st := PS.imp ps_continue fun De σ H ⟨env, own, F, st, gr, z⟩ => z σ H F gr (Le.refl _)
theorem ss_retN : SS W X g (.Return none pos) fun s st => .ok (s, .ret .non) st := PS.imp ps_retN fun De σ H ⟨env, own, F, st, gr, z⟩ => z .non H F gr.fin (Le.refl _) .non
theorem ss_ret {e : Expr} {f : Fe} {vs : List Nat} (h : ∀ Ω, (∀ i ∈ vs, Ω i = false) → SE W X g Ω .rep e f) : SS W X g (.Return (some e) pos) fun s st => (f s.1 st).bind fun d st => .ok (s, .ret d) st :=
  PS.imp (ps_ret (PE.ex (ι := { Ω : Nat → Bool // ∀ i ∈ vs, Ω i = false }) fun Ω => h Ω.1 Ω.2)) fun De σ H ⟨env, own, F, st, gr, z⟩ => by
    obtain ⟨F1, g1, l1⟩ := gr.freeze vs
    exact ⟨⟨Ωo (frz own vs), fun i hi => frz_out hi⟩, env, F1, st, g1, z.bind.mono fun d st1 z v H' F' g' fx r => z v H' F' g'.fin (l1.trans fx.le) r⟩
theorem ss_exp {e : Expr} {f : Fe} {vs : List Nat} (h : ∀ Ω, (∀ i ∈ vs, Ω i = false) → SE W X g Ω .bor e f) (hs : swapsWith e none pos.line X.env = pure false) : SS W X g (.Expr e pos) fun s st => (f s.1 st).bind fun d st => .ok ((s.1, frz s.2 vs), .nx) st :=
  PS.imp (ps_expr (PE.ex (ι := { Ω : Nat → Bool // ∀ i ∈ vs, Ω i = false }) fun Ω => h Ω.1 Ω.2) hs) fun De σ H ⟨env, own, F, st, gr, z⟩ => by
    obtain ⟨F1, g1, l1⟩ := gr.freeze vs
    exact ⟨⟨Ωo (frz own vs), fun i hi => frz_out hi⟩, env, F1, st, g1, z.bind.mono fun d st1 z v H' F' g' fx r => z σ H' F' g' (l1.trans fx.le)⟩
theorem PT.ex {X : Cx} {e : Expr} {ι : Type} {t : ι → TT} (h : ∀ i, PT X e (t i)) : PT X e fun σ H Q => ∃ i, t i σ H Q := ⟨fun pins s σ H Q I ⟨i, q⟩ => (h i).run pins s σ H Q I q⟩
theorem PA.ex {X : Cx} {e : List Expr} {ι : Type} {t : ι → TA} (h : ∀ i, PA X e (t i)) : PA X e fun σ H Q => ∃ i, t i σ H Q := ⟨fun pos pins s σ H Q I ⟨i, q⟩ => (h i).run pos pins s σ H Q I q⟩
theorem ss_if {c : Expr} {a b : List Stmt} {t : Env → DS → Res Bool} {fa fb : FS} {vs : List Nat} (h : ∀ Ω, (∀ i ∈ vs, Ω i = false) → ST W X g Ω c t) (ha : SSs W X g a fa) (hb : SSs W X g b fb) :
    SS W X g (.If c a b pos) fun s st => (t s.1 st).bind fun k st => if k then fa (s.1, frz s.2 vs) st else fb (s.1, frz s.2 vs) st :=
  PS.imp (ps_if (PT.ex (ι := { Ω : Nat → Bool // ∀ i ∈ vs, Ω i = false }) fun Ω => h Ω.1 Ω.2) ha hb) fun De σ H ⟨env, own, F, st, gr, z⟩ => by
    obtain ⟨F1, g1, l1⟩ := gr.freeze vs
    refine ⟨⟨Ωo (frz own vs), fun i hi => frz_out hi⟩, env, F1, st, g1, z.bind.mono fun k st1 z H' F' g' fx => ?_⟩
    cases k with
    | true => rw [if_pos rfl] at z ⊢; exact ⟨env, _, F', st1, g', Wn.mono z fun r st2 z => z.after (l1.trans fx.le)⟩
    | false => rw [if_neg (by decide)] at z ⊢; exact ⟨env, _, F', st1, g', Wn.mono z fun r st2 z => z.after (l1.trans fx.le)⟩
theorem PS.ex {X : Cx} {s : Stmt} {ι : Type} {t : ι → TS} (h : ∀ i, PS X s (t i)) : PS X s fun De σ H => ∃ i, t i De σ H := ⟨fun pins s σ H De I ⟨i, q⟩ => (h i).run pins s σ H De I q⟩
/-- x = e, what is stored is known for ever -/
theorem ss_set {s : Stmt} {f : Fe} {vs : List Nat} {i : Nat} (h : ∀ Ω, (∀ i ∈ vs, Ω i = false) → PS X s (tAsg (tE W g Ω .rep f) (gName i))) : SS W X g s fun s st => (f s.1 st).bind fun d st => .ok ((st1 s.1 i (some d), frz s.2 (i :: vs)), .nx) st :=
  PS.imp (PS.ex (ι := { Ω : Nat → Bool // ∀ i ∈ vs, Ω i = false }) fun Ω => h Ω.1 Ω.2) fun De σ H ⟨env, own, F, st, gr, z⟩ => by
    obtain ⟨F1, g1, l1⟩ := gr.freeze (i :: vs)
    exact ⟨⟨Ωo (frz own (i :: vs)), fun j hj => frz_out (List.mem_cons_of_mem _ hj)⟩, env, F1, st, g1, z.bind.mono fun d st1 z v H' F' g' fx r => z _ H' F' (g'.set r (frz_out List.mem_cons_self)) (l1.trans fx.le)⟩
/-- x = e, the slot alone holds what is stored -/
theorem ss_own {s : Stmt} {f : Fe} {vs : List Nat} {i : Nat} (h : ∀ Ω, (∀ i ∈ vs, Ω i = false) → PS X s (tAsg (tE W g Ω .own f) (gName i))) : SS W X g s fun s st => (f s.1 st).bind fun d st => .ok ((st1 s.1 i (some d), claim (frz s.2 (i :: vs)) i true d), .nx) st :=
  PS.imp (PS.ex (ι := { Ω : Nat → Bool // ∀ i ∈ vs, Ω i = false }) fun Ω => h Ω.1 Ω.2) fun De σ H ⟨env, own, F, st, gr, z⟩ => by
    obtain ⟨F1, g1, l1⟩ := gr.freeze (i :: vs)
    refine ⟨⟨Ωo (frz own (i :: vs)), fun j hj => frz_out (List.mem_cons_of_mem _ hj)⟩, env, F1, st, g1, z.bind.mono fun d st1 z v H' F' g' fx r => z _ H' F' ?_ (l1.trans fx.le)⟩
    have r : Own W H H' F' v d := r
    have oi : Ωo (frz own (i :: vs)) i = false := frz_out List.mem_cons_self
    unfold claim
    by_cases m : isM d = true
    · rw [m]
      rw [if_pos (by decide)]
      obtain ⟨p, o, e1, e2, e3, e4⟩ := r.isM_inv m
      refine GR.omega (g'.put (r.set0 fun p' _ e => ?_) oi fun p' _ e => ?_) (by
        funext j
        unfold Ωo
        by_cases ej : j = i
        · simp [ej]
        · simp [List.contains_cons, ej])
      · rw [e1] at e; cases e; exact g1.free0 e4
      · rw [e1] at e; cases e
        exact fun j e oj hj mj => g1.newOwn e4 j e oj hj mj
    · have m : isM d = false := by simpa using m
      rw [m, if_neg (by decide)]
      refine g'.set ?_ oi
      cases d with
      | lst _ => cases m
      | dK _ => cases m
      | dT _ => cases m
      | _ => exact r
/-- a, b = e -/
theorem ss_asg {e tg : Expr} {t : Tg} {f : Fe} {vs : List Nat} (h : ∀ Ω, (∀ i ∈ vs, Ω i = false) → SE W X g Ω .rep e f) (hg : ∀ Ω, (∀ i ∈ tgs t, Ω i = false) → SG W X g Ω tg t)
    (hs : swapsWithSole [tg] e pos.line X.env = pure false) (hw : swappedStores [tg] e X.env = pure none) (h1 : (assignEach [tg] X.env).map (·.2) = [assign tg X.env]) : SS W X g (.Assign [tg] e pos) fun s st => (f s.1 st).bind fun d st => (ofO (bindT t d s.1) st).bind fun env st => .ok ((env, frz s.2 (tgs t ++ vs)), .nx) st :=
  PS.imp (ps_asg (PE.ex (ι := { Ω : Nat → Bool // ∀ i ∈ vs, Ω i = false }) fun Ω => h Ω.1 Ω.2) (PG.ex (ι := { Ω : Nat → Bool // ∀ i ∈ tgs t, Ω i = false }) fun Ω => hg Ω.1 Ω.2) hs hw h1) fun De σ H ⟨env, own, F, st, gr, z⟩ => by
    obtain ⟨F1, g1, l1⟩ := gr.freeze (tgs t ++ vs)
    refine ⟨⟨Ωo (frz own (tgs t ++ vs)), fun j hj => frz_out (List.mem_append_right _ hj)⟩, env, F1, st, g1, z.bind.mono fun d st1 z v H' F' g' fx r => ?_⟩
    obtain ⟨env', e', z⟩ := Wn.ofO z.bind
    exact ⟨⟨Ωo (frz own (tgs t ++ vs)), fun j hj => frz_out (List.mem_append_left _ hj)⟩, env, F', st1, d, env', g', r, e', fun σ' g2 _ _ => z σ' H' F' g2 (l1.trans fx.le)⟩
/-- x, y = a, b -/
theorem ss_par {tg e a b : Expr} {fs : Fs} {i j : Nat} {vs : List Nat} (hp : ∀ t, PA X [a, b] t → PS X (.Assign [tg] e pos) (tPar i j t)) (h : ∀ Ω, (∀ i ∈ vs, Ω i = false) → SA W X g Ω [a, b] fs) :
    SS W X g (.Assign [tg] e pos) fun s st => (fs s.1 st).bind fun ds st => match ds with
      | [x, y] => .ok ((st1 (st1 s.1 i (some x)) j (some y), frz s.2 (i :: j :: vs)), .nx) st
      | _ => .stuck :=
  PS.imp (hp _ (PA.ex (ι := { Ω : Nat → Bool // ∀ i ∈ vs, Ω i = false }) fun Ω => h Ω.1 Ω.2)) fun De σ H ⟨env, own, F, st, gr, z⟩ => by
    obtain ⟨F1, g1, l1⟩ := gr.freeze (i :: j :: vs)
    refine ⟨⟨Ωo (frz own (i :: j :: vs)), fun k hk => frz_out (List.mem_cons_of_mem _ (List.mem_cons_of_mem _ hk))⟩, env, F1, st, g1, z.bind.mono fun ds st1 z ws H' F' g' fx r => ?_⟩
    cases r with
    | nil => exact z.elim
    | cons r1 r =>
      cases r with
      | nil => exact z.elim
      | cons r2 r =>
        cases r with
        | cons _ _ => exact z.elim
        | nil =>
          exact ⟨_, _, rfl, z _ H' F' ((g'.set r1 (frz_out List.mem_cons_self)).set r2 (frz_out (List.mem_cons_of_mem _ List.mem_cons_self))) (l1.trans fx.le)⟩
end
end Ev
/-! Ev11: loops, stores into lists. -/
namespace Ev
open PySem PySem.Spec PyProof.Rows L2
section
variable {W : Wd} {X : Cx} {g : Gh} {pos : Pos} {F F' : Hp} {De : Ends} {r : Out} {st st' : DS}
theorem ss_for {tg it : Expr} {b : List Stmt} {t : Tg} {fi : Fs} {fb : FS} {vs : List Nat} (hp : PassesOwn (model X.prog X.w) X.A X.env X.xe) (hc : X.calm = true)
    (hi : ∀ Ω, (∀ i ∈ vs, Ω i = false) → SI W X g Ω tg it fi) (hg : ∀ Ω, (∀ i ∈ tgs t, Ω i = false) → SG W X g Ω tg t) (hb : SSs W X g b fb) (hs : ∀ x, foldedSetIterable it X.env x = pure x) :
    SS W X g (.For tg it b [] pos) fun s st => (fi s.1 st).bind fun ds st => foldF (fun d s st => (ofO (bindT t d s.1) st).bind fun env st => fb (env, frz s.2 (tgs t)) st) ds (s.1, frz s.2 vs) st :=
  PS.imp (ps_for hp hc (PI.ex (ι := { Ω : Nat → Bool // ∀ i ∈ vs, Ω i = false }) fun Ω => hi Ω.1 Ω.2) (PG.ex (ι := { Ω : Nat → Bool // ∀ i ∈ tgs t, Ω i = false }) fun Ω => hg Ω.1 Ω.2) hb hs) fun De σ H ⟨env, own, F, st, gr, z⟩ => by
    obtain ⟨F1, g1, l1⟩ := gr.freeze vs
    refine ⟨⟨Ωo (frz own vs), fun i hi => frz_out hi⟩, env, F1, st, g1, z.bind.mono fun ds st1 z J H2 F2 g2 fx2 jok hlen => ?_⟩
    refine ⟨fun i m σ H => m = ds.length - i ∧ i ≤ ds.length ∧ ∃ env own F3 st3, GR W g (Ωo own) σ H env F3 st3 ∧ Le F2 F3 ∧ Wn (PstS W g F De) (Lets W g) (foldF (fun d s st => (ofO (bindT t d s.1) st).bind fun env st => fb (env, frz s.2 (tgs t)) st) (ds.drop i) (env, own) st3),
      ⟨ds.length, rfl, Nat.zero_le _, env, _, F2, st1, g2, Le.refl _, z⟩, ?_⟩
    rintro i m σ H ⟨rfl, hi, env, own, F3, st3, g3, l3, z3⟩
    obtain ⟨j1, j2⟩ := jok i _ σ H env F3 st3 g3 l3
    by_cases hlt : i < ds.length
    · refine .inr ?_
      obtain ⟨j1, j3⟩ := j1 ds[i] (by simp [hlt])
      refine ⟨j1, fun σ H => ∃ env own F3 st3, GR W g (Ωo own) σ H env F3 st3 ∧ Le F2 F3 ∧ Wn (PstS W g F De) (Lets W g) (foldF (fun d s st => (ofO (bindT t d s.1) st).bind fun env st => fb (env, frz s.2 (tgs t)) st) (ds.drop (i + 1)) (env, own) st3),
        fun σ' H' n => ⟨ds.length - (i + 1), by omega, rfl, hlt, n⟩, fun x H4 y => ?_⟩
      obtain ⟨_, F4, g4, fx4, r4⟩ := j3 x H4 y
      rw [drop_cons hlt] at z3
      obtain ⟨env5, e5, z3⟩ := Wn.ofO (Wn.bind z3).bind
      obtain ⟨F5, g5, l5⟩ := g4.freeze (tgs t)
      refine ⟨⟨Ωo (frz own (tgs t)), fun i hi => frz_out hi⟩, env, F5, st3, ds[i], env5, g5, r4.mono l5, e5, fun σ6 g6 _ _ => ?_⟩
      have ll := l3.trans (fx4.le.trans l5)
      refine ⟨env5, _, F5, st3, g6, z3.mono fun ⟨s7, c⟩ st7 z7 => ?_⟩
      cases c with
      | nx => exact fun σ' H' F' g' l' => ⟨s7.1, s7.2, F', st7, g', ll.trans l', z7⟩
      | ct => exact fun σ' H' F' g' l' => ⟨s7.1, s7.2, F', st7, g', ll.trans l', z7⟩
      | ret d => exact fun v H' F' f' l' r' => z7 v H' F' f' ((l1.trans fx2.le).trans (ll.trans l')) r'
    · have e : i = ds.length := by omega
      subst e
      rw [List.drop_length] at z3
      exact .inl ⟨j2 (Nat.le_refl _), z3 σ H F3 g3 ((l1.trans fx2.le).trans l3)⟩
def turnW (t : Env → DS → Res Bool) (fb : FS) (vs : List Nat) (s : Sta) (st : DS) : Res (Sta ⊕ Out) :=
  (t s.1 st).bind fun k st => if k then (fb (s.1, frz s.2 vs) st).bind fun r st => match r.2 with
      | .ret x => .ok (.inr (r.1, .ret x)) st
      | _ => .ok (.inl r.1) st
    else .ok (.inr ((s.1, frz s.2 vs), .nx)) st
theorem ss_while {c : Expr} {b : List Stmt} {t : Env → DS → Res Bool} {fb : FS} {vs : List Nat} (hp : PassesOwn (model X.prog X.w) X.A X.env X.xe) (h : ∀ Ω, (∀ i ∈ vs, Ω i = false) → ST W X g Ω c t) (hb : SSs W X g b fb) :
    SS W X g (.While c b [] pos) fun s st => loopR (turnW t fb vs) s st :=
  PS.imp (ps_while hp (PT.ex (ι := { Ω : Nat → Bool // ∀ i ∈ vs, Ω i = false }) fun Ω => h Ω.1 Ω.2) hb) fun De σ H ⟨env, own, F, st, gr, z⟩ => by
    have z : Wn (PstS W g F De) (Lets W g) (loopR (turnW t fb vs) (env, own) st) := z
    have ns : isStuck (loopR (turnW t fb vs) (env, own) st) = false := by
      cases q : loopR (turnW t fb vs) (env, own) st with
      | stuck => rw [q] at z; exact z.elim
      | _ => rfl
    obtain ⟨n, hn⟩ := loopR_ends ns
    rw [loopR_eq hn] at z
    refine ⟨fun m σ H => ∃ env own F1 st1, GR W g (Ωo own) σ H env F1 st1 ∧ Le F F1 ∧ Wn (PstS W g F De) (Lets W g) (loopN (turnW t fb vs) m (env, own) st1), ⟨n, env, own, F, st, gr, Le.refl _, z⟩, ?_⟩
    rintro m σ H ⟨env, own, F1, st1, g1, l1, z1⟩
    cases m with
    | zero => exact z1.elim
    | succ m =>
      obtain ⟨F2, g2, l2⟩ := g1.freeze vs
      refine ⟨⟨Ωo (frz own vs), fun i hi => frz_out hi⟩, env, F2, st1, g2, (Wn.bind (Wn.bind z1)).mono fun k st3 z3 H3 F3 g3 fx3 => ?_⟩
      have l3 := l1.trans (l2.trans fx3.le)
      cases k with
      | false =>
        rw [if_neg (by decide)] at z3
        exact z3 σ H3 F3 g3 l3
      | true =>
        rw [if_pos rfl] at z3
        show if true = true then _ else _
        rw [if_pos rfl]
        refine ⟨fun σ H => ∃ env own F1 st1, GR W g (Ωo own) σ H env F1 st1 ∧ Le F F1 ∧ Wn (PstS W g F De) (Lets W g) (loopN (turnW t fb vs) m (env, own) st1), fun σ' H' w => ⟨m, Nat.lt_succ_self m, w⟩, env, _, F3, st3, g3, (Wn.bind z3).mono fun ⟨s4, c⟩ st4 z4 => ?_⟩
        cases c with
        | nx => exact fun σ' H' F' g' l' => ⟨s4.1, s4.2, F', st4, g', l3.trans l', z4⟩
        | ct => exact fun σ' H' F' g' l' => ⟨s4.1, s4.2, F', st4, g', l3.trans l', z4⟩
        | ret d => exact fun v H' F' f' l' r' => z4 v H' F' f' (l3.trans l') r'

/-! ### lists that only a slot holds -/
theorem GR.ownL {Ω : Nat → Bool} {σ : L2.St} {H : Hp} {env : Env} {i : Nat} {ds : List D} (r : GR W g Ω σ H env F st) (oi : Ω i = true) (hi : lk env i = some (.lst ds)) : ∃ p vs, σ[i]? = some (some (.ref p)) ∧ H p = some (.lst vs) ∧ Reps W F vs ds := by
  obtain ⟨v, h1, h2⟩ := r.slot i _ hi
  rw [if_pos oi] at h2
  obtain ⟨p, vs, e1, e2, e3, e4, e5⟩ := h2
  subst e1
  exact ⟨p, vs, h1, e2, e5⟩
/-- the receiver: a slot's list; it is a plain list -/
theorem tyV_lst {K : PySem.W.Frag} {H : Hp} {p : Addr} {vs : List V} (h : H p = some (.lst vs)) : tyV K "list" (.ref p) H := .inl ⟨rfl, vs, SqL.of h⟩
theorem asL_some {l : D} {ds : List D} (h : asL l = some ds) : l = .lst ds := by
  cases l with
  | lst _ => cases h; rfl
  | _ => cases h
/-- x.append(e) -/
theorem ss_app {s : Stmt} {e : Expr} {f : Fe} {i : Nat} {vs : List Nat} (hp : ∀ t, PA X [e] t → PS X s (tDrop (tBM X.K "list" rAppend (tVar i) t)))
    (h : ∀ Ω, (∀ i ∈ vs, Ω i = false) → SA W X g Ω [e] fun env st => (f env st).bind fun d st => .ok [d] st) :
    SS W X g s fun s st => if (frz s.2 vs).contains i then (ofO (lk s.1 i) st).bind fun l st => (ofO (asL l) st).bind fun ds st => (f s.1 st).bind fun d st =>
        if ds.length ≤ 1000000 then .ok ((st1 s.1 i (some (.lst (ds ++ [d]))), frz s.2 vs), .nx) st else .stuck
      else .stuck :=
  PS.imp (hp _ (PA.ex (ι := { Ω : Nat → Bool // ∀ i ∈ vs, Ω i = false }) fun Ω => h Ω.1 Ω.2)) fun De σ H ⟨env, own, F, st, gr, z⟩ => by
    obtain ⟨F1, g1, l1⟩ := gr.freeze vs
    show tBM X.K "list" rAppend (tVar i) _ σ H _
    dsimp only at z
    split at z
    case isFalse => exact z.elim
    rename_i oi
    have oi : Ωo (frz own vs) i = true := oi
    obtain ⟨l, hi, z2⟩ := Wn.ofO z.bind
    obtain ⟨ds, e1, z3⟩ := Wn.ofO z2.bind
    clear z z2
    have z := z3
    clear z3
    have e1 := asL_some e1
    subst e1
    obtain ⟨p, ws, hs, hp, hr⟩ := g1.ownL oi hi
    refine ⟨.ref p, hs, tyV_lst hp, ⟨Ωo (frz own vs), fun i hi => frz_out hi⟩, env, F1, st, g1, Wn.unbind (z.bind.mono fun d st1 z us H2 F2 g2 fx2 r2 => ?_)⟩
    split at z
    case isFalse => exact z.elim
    rename_i hl
    obtain ⟨p', ws', hs', hp', hr'⟩ := g2.ownL oi hi
    rw [hs] at hs'
    cases hs'
    cases r2 with
    | cons r2 rn =>
      cases rn
      refine ⟨p, ws', _, rfl, rfl, hp', by rw [hr'.length]; exact Nat.lt_of_le_of_lt hl (by decide), ?_⟩
      exact z σ _ F2 (g2.rewrite oi hi hs (hr'.append (.cons r2 .nil))) (l1.trans fx2.le)
/-- x.extend(e) -/
theorem ss_ext {s : Stmt} {e : Expr} {f : Fe} {i : Nat} {vs : List Nat} (hp : ∀ t, PA X [e] t → PS X s (tDrop (tBM X.K "list" rExtend (tVar i) t)))
    (h : ∀ Ω, (∀ i ∈ vs, Ω i = false) → SA W X g Ω [e] fun env st => (f env st).bind fun d st => .ok [d] st) :
    SS W X g s fun s st => if (frz s.2 vs).contains i then (ofO (lk s.1 i) st).bind fun l st => (ofO (asL l) st).bind fun ds st => (f s.1 st).bind fun d st => (ofO (asL d) st).bind fun es st =>
        if ds.length + es.length ≤ 1000000 then .ok ((st1 s.1 i (some (.lst (ds ++ es))), frz s.2 vs), .nx) st else .stuck
      else .stuck :=
  PS.imp (hp _ (PA.ex (ι := { Ω : Nat → Bool // ∀ i ∈ vs, Ω i = false }) fun Ω => h Ω.1 Ω.2)) fun De σ H ⟨env, own, F, st, gr, z⟩ => by
    obtain ⟨F1, g1, l1⟩ := gr.freeze vs
    show tBM X.K "list" rExtend (tVar i) _ σ H _
    dsimp only at z
    split at z
    case isFalse => exact z.elim
    rename_i oi
    have oi : Ωo (frz own vs) i = true := oi
    obtain ⟨l, hi, z2⟩ := Wn.ofO z.bind
    obtain ⟨ds, e1, z3⟩ := Wn.ofO z2.bind
    clear z z2
    have z := z3
    clear z3
    have e1 := asL_some e1
    subst e1
    obtain ⟨p, ws, hs, hp, hr⟩ := g1.ownL oi hi
    refine ⟨.ref p, hs, tyV_lst hp, ⟨Ωo (frz own vs), fun i hi => frz_out hi⟩, env, F1, st, g1, Wn.unbind (z.bind.mono fun d st1 z us H2 F2 g2 fx2 r2 => ?_)⟩
    obtain ⟨es, e2, z3⟩ := Wn.ofO z.bind
    clear z
    have z := z3
    clear z3
    have e2 := asL_some e2
    subst e2
    split at z
    case isFalse => exact z.elim
    rename_i hl
    obtain ⟨p', ws', hs', hp', hr'⟩ := g2.ownL oi hi
    rw [hs] at hs'
    cases hs'
    cases r2 with
    | cons r2 rn =>
      cases rn
      cases r2 with
      | @lst b us _ k r =>
        refine ⟨p, b, ws', us, rfl, rfl, hp', (g2.sub _ _ k).plain rfl, by rw [hr'.length, r.length]; exact Nat.le_trans hl (by decide), ?_⟩
        exact z σ _ F2 (g2.rewrite oi hi hs (hr'.append r)) (l1.trans fx2.le)
/-- a, b = x.pop() -/
theorem ss_pop {s : Stmt} {tg : Expr} {t : Tg} {i : Nat} (hp : ∀ u, PG X tg u → PS X s (tAsg (tBM0 X.K "list" rPop (tVar i)) u)) (hg : ∀ Ω, (∀ i ∈ tgs t, Ω i = false) → SG W X g Ω tg t) :
    SS W X g s fun s st => if (frz s.2 (tgs t)).contains i then (ofO (lk s.1 i) st).bind fun l st => (ofO (asL l) st).bind fun ds st => (ofO ds.getLast? st).bind fun d st =>
        (ofO (bindT t d (st1 s.1 i (some (.lst ds.dropLast)))) st).bind fun env st => .ok ((env, frz s.2 (tgs t)), .nx) st
      else .stuck :=
  PS.imp (hp _ (PG.ex (ι := { Ω : Nat → Bool // ∀ i ∈ tgs t, Ω i = false }) fun Ω => hg Ω.1 Ω.2)) fun De σ H ⟨env, own, F, st, gr, z⟩ => by
    obtain ⟨F1, g1, l1⟩ := gr.freeze (tgs t)
    show tBM0 X.K "list" rPop (tVar i) σ H _
    dsimp only at z
    split at z
    case isFalse => exact z.elim
    rename_i oi
    have oi : Ωo (frz own (tgs t)) i = true := oi
    obtain ⟨l, hi, z2⟩ := Wn.ofO z.bind
    obtain ⟨ds, e1, z3⟩ := Wn.ofO z2.bind
    clear z z2
    have z := z3
    clear z3
    have e1 := asL_some e1
    subst e1
    obtain ⟨d, e2, z4⟩ := Wn.ofO z.bind
    obtain ⟨env', e3, z5⟩ := Wn.ofO z4.bind
    clear z z4
    have z := z5
    clear z5
    obtain ⟨p, ws, hs, hp, hr⟩ := g1.ownL oi hi
    rw [List.getLast?_eq_getElem?] at e2
    obtain ⟨y, e4, r4⟩ := hr.get e2
    refine ⟨.ref p, hs, tyV_lst hp, p, ws, y, rfl, rfl, hp, by rw [hr.length]; exact e4, ⟨Ωo (frz own (tgs t)), fun i hi => frz_out hi⟩, _, F1, st, d, env', g1.rewrite oi hi hs (ds' := ds.dropLast) (vs' := ws.dropLast) ?_, r4, e3, fun σ' g2 _ _ => z σ' _ F1 g2 l1⟩
    rw [List.dropLast_eq_take, List.dropLast_eq_take, hr.length]
    exact hr.take _
end
end Ev
/-! Ev12: more rules of expressions. -/
namespace Ev
open PySem PySem.Spec PyProof.Rows L2
section
variable {W : Wd} {X : Cx} {g : Gh} {Ω : Nat → Bool} {m : Md} {e a b c : Expr} {f fa fb fc : Fe} {pos p1 p2 : Pos}
/-! ### a op b op c -/
theorem chain_read {r r' : R2} {o o' : D → D → Option Bool} (h : Op2 W g Ω .rep r fun x y => (o x y).map .bl) (h' : Op2 W g Ω .rep r' fun x y => (o' x y).map .bl) :
    ∀ (σ : L2.St) (H : Hp) (Q : VK), tE W g Ω .rep (fun env st => (fa env st).bind fun x st => (fb env st).bind fun y st => (ofO (o x y) st).bind fun k st =>
      if k then (fc env st).bind fun z st => ofO ((o' y z).map .bl) st else .ok (.bl false) st) σ H Q → tChain r r' (tE W g Ω .bor fa) (tE W g Ω .bor fb) (tE W g Ω .bor fc) σ H Q :=
  fun σ H Q ⟨env, F, st, gr, z⟩ => ⟨env, F, st, gr, z.bind.mono fun x st1 z v H1 F1 g1 fx1 l1 => ⟨env, F1, st1, g1, z.bind.mono fun y st2 z u H2 F2 g2 fx2 l2 => by
    obtain ⟨k, q, z⟩ := Wn.ofO z.bind
    have fx12 := fx1.trans fx2
    refine h σ H2 env F2 st2 x y (.bl k) v u _ g2 (g2.cur (Bor.mono l1 fx2.le)) (g2.cur l2) (by show (o x y).map D.bl = _; rw [q]; rfl) ?_
    intro w H3 F3 g3 fx3 l3
    refine ⟨k, Rep.bl_inv l3, ?_⟩
    cases k with
    | false =>
      rw [if_neg (by decide)] at z
      exact z _ H3 F3 g3 (fx12.trans fx3) (.bl _)
    | true =>
      rw [if_pos rfl] at z
      show if true = true then _ else _
      rw [if_pos rfl]
      refine ⟨env, F3, st2, g3, z.bind.mono fun t st4 z w4 H4 F4 g4 fx4 l4 => ?_⟩
      obtain ⟨d, q2, z⟩ := Wn.ofO z
      exact h' σ H4 env F4 st4 y t d u w4 Q g4 (g4.cur (Bor.mono l2 (fx3.le.trans fx4.le))) (g4.cur l4) q2 (z.after ((fx12.trans fx3).trans fx4))⟩⟩

theorem se_cmp2 {op op' : CmpOp} {r r' : R2} {o o' : D → D → Option Bool} (ho : OpR X (compareOp op) r) (ho' : OpR X (compareOp op') r') (h : Op2 W g Ω .rep r fun x y => (o x y).map .bl) (h' : Op2 W g Ω .rep r' fun x y => (o' x y).map .bl)
    (ha : SE W X g Ω .bor a fa) (hb : SE W X g Ω .bor b fb) (hc : SE W X g Ω .bor c fc) (hm : lastMarks [op, op'] [b, c] = false) :
    SE W X g Ω .rep (.Compare a [op, op'] [b, c] pos) fun env st => (fa env st).bind fun x st => (fb env st).bind fun y st => (ofO (o x y) st).bind fun k st =>
      if k then (fc env st).bind fun z st => ofO ((o' y z).map .bl) st else .ok (.bl false) st :=
  PE.imp (pe_chain ho ho' ha hb hc hm) (chain_read h h')

/-- .. as a test -/
theorem st_of_se {e : Expr} {f : Fe} {t : TE} (hT : PT X e (tTest t)) (i : ∀ σ H Q, tE W g Ω .rep f σ H Q → t σ H Q) : ST W X g Ω e fun env st => (f env st).bind fun x st => ofO (asB x) st :=
  PT.imp hT fun σ H Q ⟨env, F, st, gr, z⟩ => i σ H _ ⟨env, F, st, gr, z.bind.mono fun x st1 z v H' F' g' fx l => by
    obtain ⟨b, q, z⟩ := Wn.ofO z
    cases x with
    | bl b' => cases q; exact ⟨b, Rep.bl_inv l, z H' F' g' fx⟩
    | _ => cases q⟩
theorem st_cmp2 {op op' : CmpOp} {r r' : R2} {o o' : D → D → Option Bool} (ho : OpR X (compareOp op) r) (ho' : OpR X (compareOp op') r') (h : Op2 W g Ω .rep r fun x y => (o x y).map .bl) (h' : Op2 W g Ω .rep r' fun x y => (o' x y).map .bl)
    (ha : SE W X g Ω .bor a fa) (hb : SE W X g Ω .bor b fb) (hc : SE W X g Ω .bor c fc) (hm : lastMarks [op, op'] [b, c] = false) :
    ST W X g Ω (.Compare a [op, op'] [b, c] pos) fun env st => ((fa env st).bind fun x st => (fb env st).bind fun y st => (ofO (o x y) st).bind fun k st =>
      if k then (fc env st).bind fun z st => ofO ((o' y z).map .bl) st else .ok (.bl false) st).bind fun x st => ofO (asB x) st :=
  st_of_se (pt_chain ho ho' ha hb hc hm) (chain_read h h')
theorem st_ite {ta tb tc : Env → DS → Res Bool} (h : ST W X g Ω c tc) (ha : ST W X g Ω a ta) (hb : ST W X g Ω b tb) :
    ST W X g Ω (.IfExp c a b pos) fun env st => (tc env st).bind fun k st => if k then ta env st else tb env st :=
  ⟨fun pins s σ H Q I ⟨env, F, st, gr, z⟩ => PyProof.Rows.isTrue_IfExp (thn (h.run pins s σ H (fun k H1 => ∃ F1 st1, GR W g Ω σ H1 env F1 st1 ∧ Wn (PstT W g Ω σ H1 F1 env Q) (Lets W g) (if k then ta env st1 else tb env st1)) I ⟨env, F, st, gr, z.bind.mono fun k st1 z H' F' g' fx => ⟨F', st1, g', Wn.mono z fun _ _ z => z.after fx⟩⟩) fun k s1 ⟨H1, I1, F1, st1, g1, z⟩ => by
    cases k with
    | true => rw [if_pos rfl] at z ⊢; exact ha.run pins s1 σ H1 Q I1 ⟨env, F1, st1, g1, z⟩
    | false => rw [if_neg (by decide)] at z ⊢; exact hb.run pins s1 σ H1 Q I1 ⟨env, F1, st1, g1, z⟩)⟩
/-! ### built-in functions of two arguments -/
theorem sa_two (ha : SE W X g Ω .bor a fa) (hb : SE W X g Ω .bor b fb) (hs : starEach [a, b] X.env = (false, eval a X.env) :: starEach [b] X.env) (hs2 : starEach [b] X.env = (false, eval b X.env) :: starEach [] X.env) :
    PA X [a, b] (tCons (tE W g Ω .bor fa) (tCons (tE W g Ω .bor fb) tNil)) := pa_cons ha (pa_cons hb pa_nil hs2) hs
theorem se_cb2 {x : Str} {id : String} {r : List V → Hp → VK → Prop} {o : D → D → Option D} (hc : CallR X (.builtin id) r) (hg : Gl X x) (hm : X.mg x = none) (hv : bootBuiltins x = some (.builtin id)) (ho : Op2 W g Ω m (fun v u H Q => r [v, u] H Q) o)
    (ha : SE W X g Ω .bor a fa) (hb : SE W X g Ω .bor b fb) (hs : starEach [a, b] X.env = (false, eval a X.env) :: starEach [b] X.env) (hs2 : starEach [b] X.env = (false, eval b X.env) :: starEach [] X.env) (hn : x ≠ "__name__") (hdb : (x == ("__debug__" : Str)) = false) :
    SE W X g Ω m (.Call (.Name x p1) [a, b] [] pos) fun env st => (fa env st).bind fun x st => (fb env st).bind fun y st => ofO (o x y) st :=
  PE.imp (pe_callB hc hg hm hv (sa_two ha hb hs hs2) hn hdb hs (by rw [hs2]; rfl)) fun σ H Q z => tE_op2 ho z
theorem o_min2 : Op2 W g Ω .rep (fun v u H Q => ∃ i j, [v, u] = [.int i, .int j] ∧ Q (.int (if j < i then j else i)) H) minI := by
  intro σ H env F st x y d v u Q gr rx ry e z
  cases x <;> cases y <;> try cases e
  exact ⟨_, _, by rw [Rep.int_inv rx, Rep.int_inv ry], z.int gr⟩
theorem o_max2 : Op2 W g Ω .rep (fun v u H Q => ∃ i j, [v, u] = [.int i, .int j] ∧ Q (.int (if j > i then j else i)) H) maxI := by
  intro σ H env F st x y d v u Q gr rx ry e z
  cases x <;> cases y <;> try cases e
  exact ⟨_, _, by rw [Rep.int_inv rx, Rep.int_inv ry], z.int gr⟩
theorem o_gcd : Op2 W g Ω .rep (fun v u H Q => rGcd [v, u] H Q) gcdI := by
  intro σ H env F st x y d v u Q gr rx ry e z
  cases x <;> cases y <;> try cases e
  exact ⟨_, _, by rw [Rep.int_inv rx, Rep.int_inv ry], z.int gr⟩
/-- gcd(a, b), imported -/
theorem se_gcd {x : Str} (hg : Gl X x) (hm : X.mg x = some (.builtin "math.gcd")) (ha : SE W X g Ω .bor a fa) (hb : SE W X g Ω .bor b fb) (hs : starEach [a, b] X.env = (false, eval a X.env) :: starEach [b] X.env) (hs2 : starEach [b] X.env = (false, eval b X.env) :: starEach [] X.env)
    (hdb : (x == ("__debug__" : Str)) = false) : SE W X g Ω .rep (.Call (.Name x p1) [a, b] [] pos) fun env st => (fa env st).bind fun x st => (fb env st).bind fun y st => ofO (gcdI x y) st := by
  have h : PE X (.Call (.Name x p1) [a, b] [] pos) (tCB rGcd (tCons (tE W g Ω .bor fa) (tCons (tE W g Ω .bor fb) tNil))) := by
    refine ⟨fun pins s σ H Q I h => ?_⟩
    refine wpAny_Call_Name_kw (ld_glob I hg hm ?_ hdb)
    exact PyProof.Rows.callWith_builtin1 (thn ((sa_two ha hb hs hs2).run pos pins s σ H _ I h) fun us s1 ⟨vs, H1, I1, r1, q1⟩ => cr_gcd pins s1 σ H1 vs us Q I1 r1 q1) hs (by rw [hs2]; rfl)
  exact PE.imp h fun σ H Q z => tE_op2 o_gcd z
/-- {} -/
theorem se_dnew : SE W X g Ω .own (.Dict [] [] pos) fun _ st => .ok (.dK []) st :=
  PE.imp pe_dnewK fun σ H Q ⟨env, F, st, gr, z⟩ p hp => z _ _ _ (gr.alloc (o := .dK []) hp) (Fx.alloc hp) ⟨p, [], rfl, L2.upd_same, gr.free hp, hp, rfl, .nil⟩

/-! ### isinstance -/
/-- what isinstance asks of a value -/
def KitV (X : Cx) (H : Hp) (x : V) (t : Value) : Prop := ∀ (pins : List (Addr × Obj)) (σ : L2.St) (s : Shared) (u : Value), Inv X pins σ H s → RelV x u → ∃ P : Heap → Prop, PySem.W.KitX X.K u t P ∧ P s.heap ∧ u ≠ .builtin "__main__.__loader__#opaque"
def rIsiG (X : Cx) : List V → Hp → VK → Prop := fun xs H Q => ∃ (x c : V) (t u : Value) (b : Bool), xs = [x, c] ∧ ClsV c u ∧ KitV X H x t ∧ PySem.W.kitOne X.K t u = some b ∧ Q (.bl b) H
def rIsiGT (X : Cx) : List V → Hp → VK → Prop := fun xs H Q => ∃ (x : V) (tp : Addr) (cs : List V) (t : Value) (us : List Value) (b : Bool), xs = [x, .ref tp] ∧ H tp = some (.tup cs) ∧ Paired ClsV cs us ∧ KitV X H x t ∧ PySem.W.kitAny X.K t us = some b ∧ Q (.bl b) H
theorem call_isiG : CallR X (.builtin "isinstance") (rIsiG X) := by
  intro pins s σ H xs us Q I r h
  obtain ⟨x, c, t, u, b, rfl, k, ty, e, q⟩ := h
  obtain ⟨u1, u2, rfl, r1, r2⟩ := vals2 r
  have e2 := k.eq r2
  subst e2
  obtain ⟨P, Z, p, hx⟩ := ty pins σ s u1 I r1
  exact PySem.W.kia_one Z I.kIn p e hx fun tk => ⟨.bl b, H, I.tok tk, rfl, q⟩
theorem call_isiGT : CallR X (.builtin "isinstance") (rIsiGT X) := by
  intro pins s σ H xs us Q I r h
  obtain ⟨x, tp, cs, t, ws, b, rfl, hT, k, ty, e, q⟩ := h
  obtain ⟨u1, u2, rfl, r1, r2⟩ := vals2 r
  cases (show u2 = Value.ref tp from r2)
  obtain ⟨P, Z, p, hx⟩ := ty pins σ s u1 I r1
  obtain ⟨_, its, rv, o, h1, h2, n, h3⟩ := (show ObjOk X.prog X.w H s.heap tp (.tup cs) from I.hok tp _ hT)
  have e3 := ClsV.all k rv
  subst e3
  obtain ⟨oc, od, odt, osl⟩ := o
  cases h2
  cases h3
  exact PySem.W.kia_tup Z I.kIn p h1 e hx fun tk => ⟨.bl b, H, I.tok tk, rfl, q⟩
theorem kitV_of {H F : Hp} {v : V} {d : D} {t : String} (hK : X.K = W.K) (r : RC W H F v d) (l : LeK F H) (e : tyN d = some t) : KitV X H v (.type t) := by
  intro pins σ s u I rv
  cases d with
  | non => cases e; rw [Rep.non_inv r] at rv; exact kit_of I rv (.base .non)
  | bl b => cases e; rw [Rep.bl_inv r] at rv; exact kit_of I rv (.base (.bl b))
  | int i => cases e; rw [Rep.int_inv r] at rv; exact kit_of I rv (.base (.int i))
  | str x => cases e; rw [Rep.str_inv r] at rv; exact kit_of I rv (.base (.str x))
  | tup ds =>
    cases e
    obtain ⟨p, vs, rfl, h1, _⟩ := Rep.tup_inv r
    obtain ⟨its, _, h2, _⟩ := I.tuple (hK ▸ l.sqT h1)
    cases (show u = Value.ref p from rv)
    obtain ⟨o, h1, h2, _⟩ := h2
    exact ⟨_, PySem.W.kitx_tuple, ⟨o, h1, h2⟩, fun z => nomatch z⟩
  | lst ds =>
    cases e
    obtain ⟨p, vs, rfl, h1, _⟩ := r
    exact kit_of I rv (.base (.lst h1))
  | dK ds =>
    cases e
    obtain ⟨p, ws, rfl, h1, _⟩ := r
    cases (show u = Value.ref p from rv)
    obtain ⟨_, _, vs, _, o, es, ep, h1, h2, _⟩ := h1.ok I.hok
    exact ⟨_, PySem.W.kitx_dict, ⟨o, h1, h2.1⟩, fun z => nomatch z⟩
  | dT ds =>
    cases e
    obtain ⟨p, ws, rfl, h1, _⟩ := r
    cases (show u = Value.ref p from rv)
    obtain ⟨_, _, xs, _, o, es, ep, h1, h2, _⟩ := h1.ok I.hok
    exact ⟨_, PySem.W.kitx_dict, ⟨o, h1, h2.1⟩, fun z => nomatch z⟩
  | _ => cases e
theorem kit_d {K : PySem.W.Frag} {d : D} {t s : String} {ty : Ty} (e : tyN d = some t) (e2 : tyS ty = some s) : PySem.W.kitOne K (.type t) (.type s) = some (tyD d ty) := by
  cases d <;> cases e <;> cases ty <;> cases e2 <;> first | exact kit_ty (r := true) (by decide +kernel) | exact kit_ty (r := false) (by decide +kernel)
theorem tyS_boot {ty : Ty} {s : String} (e : tyS ty = some s) : bootBuiltins (Str.ofString s) = some (.type s) := by
  cases ty <;> cases e <;> decide +kernel
end
end Ev
/-! Ev13: sorted, list of a text, texts' methods, isinstance as an expression. -/
namespace Ev
open PySem PySem.Spec PyProof.Rows L2
theorem strLe_trans (a b c : Str) (h1 : (!strLt b a) = true) (h2 : (!strLt c b) = true) : (!strLt c a) = true := by
  unfold strLt at *
  simp only [Bool.not_eq_true', decide_eq_false_iff_not] at *
  exact List.not_lt.mpr (List.le_trans (List.not_lt.mp h1) (List.not_lt.mp h2))
theorem strLe_total (a b : Str) : ((!strLt b a) || (!strLt a b)) = true := by
  unfold strLt
  simp only [Bool.or_eq_true, Bool.not_eq_true', decide_eq_false_iff_not]
  exact (List.le_total a.cps.toList b.cps.toList).imp List.not_lt.mpr List.not_lt.mpr
theorem strLe_anti (a b : Str) (h1 : (!strLt b a) = true) (h2 : (!strLt a b) = true) : a = b := by
  unfold strLt at *
  simp only [Bool.not_eq_true', decide_eq_false_iff_not] at *
  have e := List.le_antisymm (List.not_lt.mp h1) (List.not_lt.mp h2)
  obtain ⟨⟨x⟩⟩ := a
  obtain ⟨⟨y⟩⟩ := b
  have e : x = y := e
  rw [e]
theorem rising_pw : ∀ (r : List Str) (p : Str), risingS p r = true → (p :: r).Pairwise fun a b => (!strLt b a) = true
  | [], p, _ => List.Pairwise.cons (fun _ h => by cases h) List.Pairwise.nil
  | x :: r, p, h => by
    rw [risingS, Bool.and_eq_true, ltCps_eq] at h
    have ih := rising_pw r x h.2
    refine List.pairwise_cons.mpr ⟨fun y hy => ?_, ih⟩
    rcases List.mem_cons.mp hy with e | hy
    · rw [e]; exact h.1
    · exact strLe_trans p x y h.1 ((List.pairwise_cons.mp ih).1 y hy)
theorem sortS_uniq {ys xs : List Str} (hp : ys.Perm xs) (h : sortedS ys = true) : ys = sortS xs := by
  have h1 : ys.Pairwise fun a b => (!strLt b a) = true := by
    cases ys with
    | nil => exact List.Pairwise.nil
    | cons x r => exact rising_pw r x h
  have h2 := List.pairwise_mergeSort (le := fun a b => !strLt b a) (fun a b c => strLe_trans a b c) (fun a b => strLe_total a b) xs
  exact List.Perm.eq_of_pairwise (fun a b _ _ => strLe_anti a b) h1 h2 (hp.trans (List.mergeSort_perm xs _).symm)
theorem sortI_uniq {ys xs : List Int} (hp : ys.Perm xs) (h : ys.Pairwise (· ≤ ·)) : ys = sortI xs := by
  have h1 : ys.Pairwise fun a b => decide (a ≤ b) = true := h.imp fun {a b} z => decide_eq_true z
  have h2 := List.pairwise_mergeSort (le := fun a b : Int => decide (a ≤ b)) (fun a b c h1 h2 => decide_eq_true (Int.le_trans (of_decide_eq_true h1) (of_decide_eq_true h2))) (fun a b => by
    rcases Int.le_total a b with h | h
    · rw [decide_eq_true h]; rfl
    · rw [decide_eq_true h, Bool.or_true]) xs
  exact List.Perm.eq_of_pairwise (fun a b _ _ h1 h2 => Int.le_antisymm (of_decide_eq_true h1) (of_decide_eq_true h2)) h1 h2 (hp.trans (List.mergeSort_perm xs _).symm)
section
variable {W : Wd} {X : Cx} {g : Gh} {Ω : Nat → Bool} {m : Md} {e a b c : Expr} {f fa fb fc : Fe} {pos p1 p2 apos : Pos}
theorem reps_ints {F : Hp} : ∀ ns : List Int, Reps W F (ns.map V.int) (ns.map D.int)
  | [] => .nil
  | n :: ns => .cons (.int n) (reps_ints ns)
theorem reps_strs {F : Hp} : ∀ ns : List Str, Reps W F (ns.map V.str) (ns.map D.str)
  | [] => .nil
  | n :: ns => .cons (.str n) (reps_strs ns)
theorem o_sorted (hK : X.K = W.K) : Op1 W g Ω .own (fun v H Q => rSortedI X.K [v] H Q ∨ rSortedS X.K [v] H Q) (b1op .sorted) := by
  intro σ H env F st x d v Q gr rx e z
  cases x with
  | lst ds =>
    obtain ⟨p, vs, rfl, h1, r⟩ := rx
    simp only [b1op, sortD] at e
    cases q : asIs ds with
    | some ns =>
      rw [q] at e
      cases e
      rw [asIs_reps q r] at h1
      refine .inl ⟨p, ns, rfl, SqL.of h1, fun ns' l hp hs hl => ?_⟩
      rw [sortI_uniq hp hs]
      exact z _ _ _ (gr.alloc hl) (Fx.alloc hl) ⟨l, _, rfl, L2.upd_same, gr.free hl, hl, reps_ints _⟩
    | none =>
      rw [q] at e
      simp only at e
      cases q2 : asSs ds with
      | none => rw [q2] at e; cases e
      | some ss =>
        rw [q2] at e
        simp only [Option.bind_some] at e
        split at e
        · rename_i hl
          cases e
          rw [asSs_reps q2 r] at h1
          refine .inr ⟨p, ss, rfl, SqL.of h1, hl, fun ns' l hp hs hl => ?_⟩
          rw [sortS_uniq hp hs]
          exact z _ _ _ (gr.alloc hl) (Fx.alloc hl) ⟨l, _, rfl, L2.upd_same, gr.free hl, hl, reps_strs _⟩
        · cases e
  | _ => cases e
/-- list(a text) -/
def rListS : List V → Hp → VK → Prop := fun xs H Q => ∃ s, xs = [.str s] ∧ s.cps.size ≤ 1000000 ∧ ∀ l, H l = none → Q (.ref l) (upd H l (.lst (s.cps.toList.map fun c => V.str ⟨#[c]⟩)))
theorem vals_signs {s : Str} {acc : Array Value} (h : ItemsOf (SignAt s) acc s.cps.size) : Vals (s.cps.toList.map fun c => V.str ⟨#[c]⟩) acc.toList := by
  have key : ∀ (xs : List V) (us : List Value), xs.length = us.length → (∀ i x u, xs[i]? = some x → us[i]? = some u → RelV x u) → Vals xs us := fun xs => by
    induction xs with
    | nil => intro us hl _; cases us with | nil => exact .nil | cons _ _ => cases hl
    | cons x xs ih =>
      intro us hl hr
      cases us with
      | nil => cases hl
      | cons u us => exact .cons (hr 0 x u rfl rfl) (ih us (by simpa using hl) fun i y w h1 h2 => hr (i + 1) y w (by simpa using h1) (by simpa using h2))
  refine key _ _ (by rw [List.length_map, Array.length_toList, Array.length_toList]; exact h.1.symm) fun i x u h1 h2 => ?_
  rw [Array.getElem?_toList] at h2
  obtain ⟨c, t, h3, h4⟩ := h.2 i u h2
  rw [List.getElem?_map, Array.getElem?_toList, h3] at h1
  cases h1
  exact ⟨t, h4⟩
theorem call_listS (hc : X.calm = true) : CallR X (.type "list") rListS := by
  intro pins s σ H xs us Q I r h
  obtain ⟨z, rfl, hz, q⟩ := h
  obtain ⟨u, rfl, rx⟩ := vals1 r
  obtain ⟨t, rfl⟩ := rx
  refine call_list_str (I.ok.hd hc) z t (fun h' tk acc c k e hi => ?_) (Nat.le_trans hz (by decide))
  have hl : (z.cps.toList.map fun c => V.str ⟨#[c]⟩).length ≤ sizeLine := by rw [List.length_map, Array.length_toList]; exact Nat.le_trans hz (by decide)
  exact ⟨.ref _, upd H s.heap.objs.size (.lst (z.cps.toList.map fun c => V.str ⟨#[c]⟩)), I.laid (t' := tk) k (Nat.le_refl _) ⟨hl, acc.toList, c, vals_signs hi, by rw [e]⟩, rfl, q _ I.fresh⟩
theorem reps_signs {F : Hp} (s : Str) : Reps W F (s.cps.toList.map fun c => V.str ⟨#[c]⟩) (s.cps.toList.map fun c => D.str ⟨#[c]⟩) := by
  generalize s.cps.toList = l
  induction l with
  | nil => exact .nil
  | cons c l ih => exact .cons (.str _) ih
theorem o_listD (hK : X.K = W.K) : Op1 W g Ω .own (fun v H Q => (∃ p ys, [v] = [.ref p] ∧ (SqL X.K H p ys ∨ SqT X.K H p ys) ∧ ∀ l, H l = none → Q (.ref l) (upd H l (.lst ys))) ∨ rListS [v] H Q) (b1op .list) := by
  intro σ H env F st x d v Q gr rx e z
  cases x with
  | lst ds => exact .inl (o_list hK σ H env F st (.lst ds) d v Q gr rx e z)
  | tup ds => exact .inl (o_list hK σ H env F st (.tup ds) d v Q gr rx e z)
  | str s =>
    simp only [b1op, listD] at e
    split at e
    · rename_i h
      cases e
      exact .inr ⟨s, by rw [Rep.str_inv rx], h, fun l hl => z _ _ _ (gr.alloc hl) (Fx.alloc hl) ⟨l, _, rfl, L2.upd_same, gr.free hl, hl, reps_signs s⟩⟩
    · cases e
  | _ => cases e
theorem call_listD (hc : X.calm = true) : CallR X (.type "list") (fun xs H Q => (∃ p ys, xs = [.ref p] ∧ (SqL X.K H p ys ∨ SqT X.K H p ys) ∧ ∀ l, H l = none → Q (.ref l) (upd H l (.lst ys))) ∨ rListS xs H Q) := call_list_of.or (call_listS hc)

/-! ### methods of texts -/
theorem se_join (hK : X.K = W.K) (ha : SE W X g Ω .bor a fa) (hb : SE W X g Ω .bor b fb) (hs : starEach [b] X.env = [(false, eval b X.env)]) (hbase : attributeBase a "join" X.env (eval a X.env) = eval a X.env) (hline : (apos.endLine == pos.line) = true) :
    SE W X g Ω .rep (.Call (.Attribute a "join" apos) [b] [] pos) fun env st => (fa env st).bind fun x st => (ofO (asS x) st).bind fun s st => (fb env st).bind fun y st => ofO (joinD s y) st :=
  PE.imp (pe_join ha hb hs hbase hline) fun σ H Q ⟨env, F, st, gr, z⟩ => ⟨env, F, st, gr, z.bind.mono fun x st1 z v H1 F1 g1 fx1 l1 => by
    have c1 := g1.cur l1
    obtain ⟨s, q, z1⟩ := Wn.ofO z.bind
    cases x with
    | str s' =>
      cases q
      have e := Rep.str_inv c1
      subst e
      refine ⟨⟨s, rfl⟩, env, F1, st1, g1, z1.bind.mono fun y st2 z u H2 F2 g2 fx2 l2 => ?_⟩
      obtain ⟨d, q, z⟩ := Wn.ofO z
      have c2 := g2.cur l2
      have key : ∀ ds p vs, seqD y = some ds → u = .ref p → (SqL X.K H2 p vs ∨ SqT X.K H2 p vs) → Reps W F2 vs ds → ∃ a_1 p ys, V.str s = .str a_1 ∧ [u] = [.ref p] ∧ (SqL X.K H2 p (ys.map V.str) ∨ SqT X.K H2 p (ys.map V.str)) ∧ (ys.map (·.length)).sum + ys.length * a_1.length ≤ 16777216 ∧ Q (.str (Txt.join a_1 ys)) H2 := fun ds p vs hd hu hq r => by
        simp only [joinD] at q
        rw [hd, Option.bind_some] at q
        cases q2 : asSs ds with
        | none => rw [q2] at q; cases q
        | some ss =>
          rw [q2, Option.bind_some] at q
          split at q
          · rename_i hl
            cases q
            rw [asSs_reps q2 r] at hq
            exact ⟨s, p, ss, rfl, by rw [hu], hq, by omega, z _ H2 F2 g2 (fx1.trans fx2) (.str _)⟩
          · cases q
      cases y with
      | lst ds => obtain ⟨p, vs, e, h1, r⟩ := c2; exact key ds p vs rfl e (.inl (SqL.of h1)) r
      | tup ds => obtain ⟨p, vs, e, h1, r⟩ := Rep.tup_inv c2; exact key ds p vs rfl e (.inr (hK ▸ g2.sub.sqT h1)) r
      | _ => cases q
    | _ => cases q⟩
theorem se_upper (ha : SE W X g Ω .bor a fa) (hbase : attributeBase a "upper" X.env (eval a X.env) = eval a X.env) (hline : (apos.endLine == pos.line) = true) :
    SE W X g Ω .rep (.Call (.Attribute a "upper" apos) [] [] pos) fun env st => (fa env st).bind fun x st => ofO (upperD x) st :=
  PE.imp (pe_upper ha hbase hline) fun σ H Q ⟨env, F, st, gr, z⟩ => ⟨env, F, st, gr, z.bind.mono fun x st1 z v H1 F1 g1 fx1 l1 => by
    obtain ⟨d, q, z⟩ := Wn.ofO z
    have c1 := g1.cur l1
    cases x with
    | str s =>
      have e := Rep.str_inv c1
      subst e
      simp only [upperD] at q
      split at q
      · rename_i hl
        cases q
        exact ⟨⟨s, rfl⟩, s, rfl, rfl, by omega, z _ H1 F1 g1 fx1 (.str _)⟩
      · cases q
    | _ => cases q⟩
end
end Ev
/-! Ev14: isinstance; calls of defs. -/
namespace Ev
open PySem PySem.Spec PyProof.Rows L2
section
variable {W : Wd} {X : Cx} {g : Gh} {Ω : Nat → Bool} {m : Md} {e a b c n : Expr} {f fa fb fc : Fe} {pos p1 p2 apos : Pos}
theorem isinT_of {G : G} {d : D} {ts : List Ty} (h : (ts.all fun t => (tyS t).isSome) = true) : isinT G d ts = isinB d ts := by
  unfold isinT
  split
  · simp [tyS] at h
  · rw [if_pos h]
theorem se_isi {ty : Ty} {s : String} (hK : X.K = W.K) (hty : tyS ty = some s) (hg : Gl X "isinstance") (hm : X.mg "isinstance" = none) (hn : PE X n (tC (.ty s))) (ha : SE W X g Ω .bor a fa)
    (hs : starEach [a, n] X.env = (false, eval a X.env) :: starEach [n] X.env) (hs2 : starEach [n] X.env = (false, eval n X.env) :: starEach [] X.env) :
    SE W X g Ω .rep (.Call (.Name "isinstance" p1) [a, n] [] pos) fun env st => (fa env st).bind fun x st => ofO ((isinB x [ty]).map .bl) st := by
  have h : PE X (.Call (.Name "isinstance" p1) [a, n] [] pos) (tCB (rIsiG X) (tCons (tE W g Ω .bor fa) (tCons (tC (.ty s)) tNil))) :=
    pe_callB call_isiG hg hm PyProof.Rows.boot_isinstance (pa_cons ha (pa_cons hn pa_nil hs2) hs) (by decide) (by decide) hs (by rw [hs2]; rfl)
  refine PE.imp h fun σ H Q z => tE_op1 (r := fun v H Q => rIsiG X [v, .ty s] H Q) (op := fun x => (isinB x [ty]).map .bl) (m := .rep) (fun σ H env F st x d v Q gr rx e z => ?_) z
  unfold isinB at e
  dsimp only at e
  cases q : tyN x with
  | none => rw [q] at e; cases e
  | some t =>
    rw [q] at e
    cases e
    exact ⟨v, .ty s, _, _, _, rfl, .ty s, kitV_of hK rx gr.sub q, kit_d q hty, by simpa using z.bl gr⟩
theorem kit_any {K : PySem.W.Frag} {d : D} {t : String} (q : tyN d = some t) : ∀ {ts : List Ty} {ss : List String}, ts.map tyS = ss.map some → PySem.W.kitAny K (.type t) (ss.map Value.type) = some (ts.any (tyD d))
  | [], [], _ => rfl
  | [], _ :: _, h => by cases h
  | _ :: _, [], h => by cases h
  | ty :: ts, s :: ss, h => by
    rw [List.map_cons, List.map_cons, List.cons_eq_cons] at h
    refine kitAny_cons (kit_d q h.1) (fun z => ?_) fun z => ?_
    · rw [List.any_cons, z, Bool.false_or]; exact kit_any q h.2
    · rw [List.any_cons, z, Bool.true_or]
def tCs (vs : List V) : TA := fun _ H Q => Q vs H
theorem pair_cls : ∀ ss : List String, Paired ClsV (ss.map V.ty) (ss.map Value.type)
  | [] => .nil
  | s :: ss => .cons (.ty s) (pair_cls ss)
theorem se_isiT {ts : List Ty} {ss : List String} {ns : List Expr} {k : Nat} (hK : X.K = W.K) (hty : ts.map tyS = ss.map some) (hl : ss.length ≤ 1000) (hg : Gl X "isinstance") (hm : X.mg "isinstance" = none) (hn : PA X ns (tCs (ss.map V.ty))) (ha : SE W X g Ω .bor a fa)
    (hs : starEach [a, .Tuple ns k p2] X.env = (false, eval a X.env) :: starEach [.Tuple ns k p2] X.env) :
    SE W X g Ω .rep (.Call (.Name "isinstance" p1) [a, .Tuple ns k p2] [] pos) fun env st => (fa env st).bind fun x st => ofO ((isinB x ts).map .bl) st := by
  have h : PE X (.Call (.Name "isinstance" p1) [a, .Tuple ns k p2] [] pos) (tCB (rIsiGT X) (tCons (tE W g Ω .bor fa) (tCons (tTup (tCs (ss.map V.ty))) tNil))) :=
    pe_callB call_isiGT hg hm PyProof.Rows.boot_isinstance (pa_cons ha (pa_cons (pe_tup hn) pa_nil) hs) (by decide) (by decide) hs (by rfl)
  refine PE.imp h fun σ H Q z => tE_op1 (r := fun v H Q => (ss.map V.ty).length ≤ sizeLine ∧ ∀ p, H p = none → rIsiGT X [v, .ref p] (upd H p (.tup (ss.map V.ty))) Q) (op := fun x => (isinB x ts).map .bl) (m := .rep) (fun σ H env F st x d v Q gr rx e z => ?_) z
  refine ⟨by rw [List.length_map]; exact Nat.le_trans hl (by decide), fun p hp => ?_⟩
  unfold isinB at e
  dsimp only at e
  cases q : tyN x with
  | none => rw [q] at e; cases e
  | some t =>
    rw [q] at e
    cases e
    have kv : KitV X (upd H p (.tup (ss.map V.ty))) v (.type t) := by
      have g2 := gr.alloc (o := .tup (ss.map V.ty)) hp
      refine kitV_of hK ?_ g2.sub q
      cases x with
      | lst ds => obtain ⟨q, vs, e1, e2, e3⟩ := rx; exact ⟨q, vs, e1, by rw [L2.upd_ne (ne_of_none e2 hp)]; exact e2, e3⟩
      | dK ds =>
        obtain ⟨q, vs, e1, e2, e3⟩ := rx
        exact ⟨q, vs, e1, e2.elim (fun e2 => .inl (by rw [L2.upd_ne (ne_of_none e2 hp)]; exact e2)) (fun ⟨o, e2⟩ => .inr ⟨o, by rw [L2.upd_ne (ne_of_none e2 hp)]; exact e2⟩), e3⟩
      | dT ds =>
        obtain ⟨q, vs, e1, e2, e3⟩ := rx
        exact ⟨q, vs, e1, e2.elim (fun e2 => .inl (by rw [L2.upd_ne (ne_of_none e2 hp)]; exact e2)) (fun ⟨o, e2⟩ => .inr ⟨o, by rw [L2.upd_ne (ne_of_none e2 hp)]; exact e2⟩), e3⟩
      | _ => exact rx
    exact ⟨v, p, _, _, _, _, rfl, L2.upd_same, pair_cls ss, kv, kit_any q hty, z _ _ F (gr.alloc hp) (Fx.alloc hp) (.bl _)⟩

/-! ### what a def promises, over data -/
/-- a def's promise: from what its arguments represent -/
def spF (W : Wd) (call : List D → DS → Res D) : Sp := fun vs H Q E => ∃ F st ds, LeK F H ∧ (∀ a, W.mt a → F a = none) ∧ (W.inv H st ∧ TbOk H F) ∧ Reps W F vs ds ∧
  Wn (fun d st' => ∀ v H' F', Fin W ⟨H, F, E⟩ H' F' st' → Rep W F' v d → Q v H') (Lets W ⟨H, F, E⟩) (call ds st)
theorem RaiseP.up {Ω : Nat → Bool} {σ : L2.St} {H : Hp} {env : Env} {F : Hp} {st st' : DS} {c : Str} {fs : List D} {cls : Value} {dx : Option Addr} {H' : Hp} (gr : GR W g Ω σ H env F st) (h : RaiseP W ⟨H, F, g.E0⟩ c fs st' cls dx H') : RaiseP W g c fs st' cls dx H' := by
  obtain ⟨h0, h1, h2, h3, F', h4, h5, h6, h7, h8⟩ := h
  refine ⟨h0, h1, fun a o e n => h2 a o (gr.keep a o e n) n, h3, F', h4, h5, gr.old.trans h6, fun a o e => ?_, ?_⟩
  · rcases h7 a o e with z | z
    · exact gr.new a o z
    · right
      by_cases m : W.mt a
      · rw [h5 a m] at e; cases e
      · cases q : g.H0 a with
        | none => rfl
        | some u =>
          have z : H a = none := z
          rw [gr.keep a u q m] at z; cases z
  · revert h8
    cases fs with
    | nil => cases dx <;> exact id
    | cons x r =>
      cases r with
      | nil =>
        cases dx with
        | none => exact id
        | some a =>
          rintro ⟨v, f, e1, e2, e3, e4⟩
          refine ⟨v, f, e1, ?_, e3, e4⟩
          have e2 : H a = none := e2
          cases q : g.H0 a with
          | none => rfl
          | some u =>
            by_cases m : W.mt a
            · exact absurd e2 (W.there _ _ _ gr.inv m)
            · rw [gr.keep a u q m] at e2; cases e2
      | cons _ _ => cases dx <;> exact id
theorem Lets.up {Ω : Nat → Bool} {σ : L2.St} {H : Hp} {env : Env} {F : Hp} {st st' : DS} {c : Str} {fs : List D} (gr : GR W g Ω σ H env F st) (h : Lets W g c fs st') : Lets W ⟨H, F, g.E0⟩ c fs st' := fun cls dx H' z => h cls dx H' (z.up gr)
/-- behind a call -/
theorem GR.back {Ω : Nat → Bool} {σ : L2.St} {H H' : Hp} {env : Env} {F F' : Hp} {st st' : DS} (gr : GR W g Ω σ H env F st) (f : Fin W ⟨H, F, g.E0⟩ H' F' st') : GR W g Ω σ H' env F' st' := by
  have old : Le F F' := f.old
  have key : ∀ p o, H p = some o → F p = none → g.H0 p = none → H' p = some o ∧ F' p = none := fun p o h1 h2 h3 => by
    have hm : ¬ W.mt p := fun z => gr.m0 p z h3
    refine ⟨f.keep p o h1 hm, ?_⟩
    cases q : F' p with
    | none => rfl
    | some u =>
      rcases f.new p u q with z | z
      · have z : F p = some u := z
        rw [h2] at z; cases z
      · have z : H p = none := z
        rw [h1] at z; cases z
  refine ⟨fun a o h n => f.keep a o (gr.keep a o h n) n, f.sub, f.nmut, gr.old.trans old, fun a o h => ?_, f.inv, gr.m0, gr.len, fun j e hj => ?_, gr.sep, f.tb⟩
  · rcases f.new a o h with z | z
    · exact gr.new a o z
    · right
      by_cases m : W.mt a
      · rw [f.nmut a m] at h; cases h
      · cases q : g.H0 a with
        | none => rfl
        | some u =>
          have z : H a = none := z
          rw [gr.keep a u q m] at z; cases z
  · obtain ⟨v, h1, h2⟩ := gr.slot j e hj
    refine ⟨v, h1, ?_⟩
    split
    · rename_i oj
      rw [if_pos oj] at h2
      cases e with
      | lst ds => obtain ⟨p, vs, e1, e2, e3, e4, e5⟩ := h2; obtain ⟨k1, k2⟩ := key p _ e2 e3 e4; exact ⟨p, vs, e1, k1, k2, e4, e5.mono old⟩
      | dK ds => obtain ⟨p, vs, e1, e2, e3, e4, e6, e5⟩ := h2; obtain ⟨k1, k2⟩ := key p _ e2 e3 e4; exact ⟨p, vs, e1, k1, k2, e4, e6, e5.mono old⟩
      | dT ds => obtain ⟨p, vs, e1, e2, e3, e4, e6, e5⟩ := h2; obtain ⟨k1, k2⟩ := key p _ e2 e3 e4; exact ⟨p, vs, e1, k1, k2, e4, e6, e5.mono old⟩
      | _ => exact Rep.mono old h2
    · rename_i oj
      rw [if_neg oj] at h2
      exact h2.mono old
theorem Fin.fx {H H' F F' : Hp} {E : XK} {st' : DS} (st : DS) (i : W.inv H st) (f : Fin W ⟨H, F, E⟩ H' F' st') : Fx H F H' F' := ⟨f.old, fun a o h => f.new a o h, fun a h => by
  by_cases m : W.mt a
  · exact W.there _ _ _ f.inv m
  · cases q : H a with
    | none => exact absurd q h
    | some u => rw [f.keep a u q m]; simp⟩
/-- f(..), f a def -/
theorem tcall_of {call : List D → DS → Res D} {fs : Fs} {σ : L2.St} {H : Hp} {Q : VK} (z : tE W g Ω .rep (fun env st => (fs env st).bind fun ds st => call ds st) σ H Q) : tCall (spF W call) [] g.E0 (tA W g Ω fs) σ H Q := by
  obtain ⟨env, F, st, gr, z⟩ := z
  refine ⟨env, F, st, gr, z.bind.mono fun ds st1 z vs H1 F1 g1 fx1 r1 => ?_⟩
  show spF W call (vs ++ []) H1 Q g.E0
  rw [List.append_nil]
  refine ⟨F1, st1, ds, g1.sub, g1.nmut, ⟨g1.inv, g1.tb⟩, r1, ?_⟩
  have up : ∀ {r : Res D}, Wn (PstE W g Ω .rep σ H F env Q) (Lets W g) r → Wn (fun d st' => ∀ v H' F', Fin W ⟨H1, F1, g.E0⟩ H' F' st' → Rep W F' v d → Q v H') (Lets W ⟨H1, F1, g.E0⟩) r := fun {r} z => by
    cases r with
    | ok d st2 => exact fun v H' F' f r => z v H' F' (g1.back f) (fx1.trans (f.fx st1 g1.inv)) r
    | raise c fs st2 => exact Lets.up g1 z
    | stuck => exact z
  exact up z
end
end Ev
/-! Ev26: the draws' state, read and written. -/
namespace Ev
open PySem PySem.Spec PyProof.Rows L2
theorem ds_rest (L Ca : Addr) (st : DS) : valV (dsD L Ca st) (.inr "rest") = some (.int st.rest) := by rfl
theorem ds_turn (L Ca : Addr) (st : DS) : valV (dsD L Ca st) (.inr "turn") = some (.int st.turn) := by rfl
theorem ds_great (L Ca : Addr) (st : DS) : valV (dsD L Ca st) (.inr "great") = some (.ref L) := by rfl
theorem ds_cells (L Ca : Addr) (st : DS) : valV (dsD L Ca st) (.inr "cells") = some (.ref Ca) := by rfl
theorem put_rest (L Ca : Addr) (st : DS) (i : Int) : putK (dsD L Ca st) (.inr "rest") (.int i) = dsD L Ca { st with rest := i } := by rfl
theorem put_turn (L Ca : Addr) (st : DS) (i : Int) : putK (dsD L Ca st) (.inr "turn") (.int i) = dsD L Ca { st with turn := i } := by rfl
/-- the fields' names -/
def drName : Nat → Str
  | 0 => "rest"
  | 1 => "turn"
  | _ => "cells"
section
variable {W : Wd} {X : Cx} {g : Gh} {Ω : Nat → Bool} {σ : L2.St} {H : Hp} {env : Env} {F : Hp} {st : DS} {a : Addr} {o : HO} {i : Nat}
/-- what may change is written -/
theorem GR.mut {st' : DS} (r : GR W g Ω σ H env F st) (m : W.mt a) (nc : ∀ c q, H a ≠ some (LamX.CodeO c q)) (iv : W.inv (upd H a o) st') : GR W g Ω σ (upd H a o) env F st' := by
  have Fa := r.nmut a m
  refine ⟨fun b u h n => ?_, fun b u h => ?_, r.nmut, r.old, r.new, iv, r.m0, r.len, fun i d h => ?_, r.sep, r.tb.upd nc⟩
  · rw [upd_ne (fun e : b = a => n (by rw [e]; exact m))]; exact r.keep b u h n
  · have ne := ne_of_none h Fa
    exact (r.sub b u h).keep fun o z => by rw [upd_ne ne]; exact z
  · obtain ⟨v, h1, h2⟩ := r.slot i d h
    refine ⟨v, h1, ?_⟩
    split
    · rename_i oi
      rw [if_pos oi] at h2
      have ne : ∀ p, g.H0 p = none → p ≠ a := fun p z e => r.m0 a m (e ▸ z)
      cases d with
      | lst ds => obtain ⟨p, vs, f1, f2, f3, f4, f5⟩ := h2; exact ⟨p, vs, f1, by rw [upd_ne (ne p f4)]; exact f2, f3, f4, f5⟩
      | dK ds => obtain ⟨p, vs, f1, f2, f3, f4, f5⟩ := h2; exact ⟨p, vs, f1, by rw [upd_ne (ne p f4)]; exact f2, f3, f4, f5⟩
      | dT ds => obtain ⟨p, vs, f1, f2, f3, f4, f5⟩ := h2; exact ⟨p, vs, f1, by rw [upd_ne (ne p f4)]; exact f2, f3, f4, f5⟩
      | _ => exact h2
    · rename_i oi
      rw [if_neg oi] at h2
      exact h2
theorem Fx.mut (n : H a ≠ none) : Fx H F (upd H a o) F := ⟨Le.refl F, fun _ _ h => .inl h, fun b h => by
  by_cases e : b = a
  · rw [e, upd_same]; simp
  · rw [upd_ne e]; exact h⟩
theorem GR.drw (r : GR W g Ω σ H env F st) (oi : Ω i = false) (h : isDrw (lk env i) = true) : ∃ a, σ[i]? = some (some (.ref a)) ∧ W.drA a ∧ F W.Cd = some (.lst (W.cells.map V.int)) := by
  cases q : lk env i with
  | none => rw [q] at h; cases h
  | some d =>
    rw [q] at h
    cases d with
    | drw =>
      obtain ⟨v, h1, h2⟩ := r.slot i _ q
      rw [if_neg (by rw [oi]; decide)] at h2
      cases h2 with
      | drw k1 k2 => exact ⟨_, h1, k1, k2⟩
    | _ => cases h
theorem nosl_str {x : Str} {j : Nat} {p : Pos} : NoSl (.Constant (.str x) j p) := fun _ _ => rfl
variable {pos p1 p2 p3 : Pos} {x : Str} {j : Nat}
abbrev drE (x : Str) (f : Str) (j : Nat) (p1 p2 p3 : Pos) : Expr := .Subscript (.Name x p1) (.Constant (.str f) j p2) p3
theorem se_dr {f : Nat} (hf : f ≤ 2) (hu : X.A.units + 1 < cLine) (hv : PE X (.Name x p1) (tVar i)) (oi : Ω i = false) :
    SE W X g Ω .rep (drE x (drName f) j p1 p2 p3) fun env st => if isDrw (lk env i) then ofO (drF f st) st else .stuck :=
  PE.imp (pe_dget hu hv pe_str nosl_str) fun σ H Q ⟨env, F, st, gr, z⟩ => by
    dsimp only at z
    split at z
    case isFalse => exact z.elim
    rename_i h
    obtain ⟨a, h1, h2, h3⟩ := gr.drw oi h
    obtain ⟨k1, k2, k3, k4, k5⟩ := W.dr H st a gr.inv h2
    obtain ⟨d, e, z⟩ := Wn.ofO z
    refine ⟨.ref a, h1, a, ?_⟩
    match f, hf with
    | 0, _ => cases e; exact ⟨.int st.rest, rfl, by rw [← ds_rest W.Ld W.Cd st]; exact DGet.k (k := .inr "rest") k1, z _ H F gr (Fx.refl H F) (.int _)⟩
    | 1, _ => cases e; exact ⟨.int st.turn, rfl, by rw [← ds_turn W.Ld W.Cd st]; exact DGet.k (k := .inr "turn") k1, z _ H F gr (Fx.refl H F) (.int _)⟩
    | 2, _ =>
      cases e
      refine ⟨.ref W.Cd, rfl, by rw [← ds_cells W.Ld W.Cd st]; exact DGet.k (k := .inr "cells") k1, z _ H F gr (Fx.refl H F) ?_⟩
      rw [k5]
      exact .lst h3 (reps_ints _)
theorem eqDs_nil (ns : List Int) : eqDs (ns.map D.int) [] = ns.isEmpty := by cases ns <;> rfl
theorem eqN_ints (n : Nat) (ns : List Int) : eqN (n + 1) (.lst (ns.map D.int)) = true := by
  show (ns.map D.int).all (eqN n) = true
  rw [List.all_map]
  exact List.all_eq_true.mpr fun i _ => by cases n <;> rfl
theorem gne_read {Q : VK} {Ω : Nat → Bool} (hK : X.K = W.K) (oi : Ω i = false) (z : tE W g Ω .rep (fun env st => if isDrw (lk env i) then .ok (.bl (!st.great.isEmpty)) st else .stuck) σ H Q) :
    tOp (rNeD X.K) (tDGet (tVar i) (tC (.str "great"))) (tLst tNil) σ H Q := by
    obtain ⟨env, F, st, gr, z⟩ := z
    dsimp only at z
    split at z
    case isFalse => exact z.elim
    rename_i h
    obtain ⟨a, h1, h2, h3⟩ := gr.drw oi h
    obtain ⟨k1, k2, k3, k4, k5⟩ := W.dr H st a gr.inv h2
    refine ⟨.ref a, h1, a, .ref W.Ld, rfl, by rw [← ds_great W.Ld W.Cd st]; exact DGet.k (k := .inr "great") k1, Nat.zero_le _, fun p hp => ?_⟩
    have g2 := gr.alloc (o := .lst []) hp
    refine o_ne (W := W) (g := g) (Ω := Ω) hK σ _ env F st (.lst (st.great.map .int)) (.lst []) (.bl (!st.great.isEmpty)) (.ref W.Ld) (.ref p) Q g2 ⟨W.Ld, _, rfl, by rw [upd_ne (ne_of_none k2 hp)]; exact k2, reps_ints _⟩ ⟨p, [], rfl, upd_same, .nil⟩ ?_ fun v H' F' g' fx l => z v H' F' g' ((Fx.alloc hp).trans fx) l
    show (cmpop .ne (.lst (st.great.map .int)) (.lst [])).map D.bl = _
    simp only [cmpop]
    rw [eqN_ints, if_pos (by rfl)]
    show some (D.bl (!eqDs (st.great.map D.int) [])) = _
    rw [eqDs_nil]
theorem se_gne {p4 : Pos} (hK : X.K = W.K) (hu : X.A.units + 64 < cLine) (hv : PE X (.Name x p1) (tVar i)) (oi : Ω i = false) :
    SE W X g Ω .rep (.Compare (drE x "great" j p1 p2 p3) [.NotEq] [.List [] p4] pos) fun env st => if isDrw (lk env i) then .ok (.bl (!st.great.isEmpty)) st else .stuck :=
  PE.imp (pe_cmpR (op_neD hu) (pe_dget (by omega) hv pe_str nosl_str) (pe_lst pa_nil) rfl) fun σ H Q z => gne_read hK oi z
theorem st_gne {p4 : Pos} (hK : X.K = W.K) (hu : X.A.units + 64 < cLine) (hv : PE X (.Name x p1) (tVar i)) (oi : Ω i = false) :
    ST W X g Ω (.Compare (drE x "great" j p1 p2 p3) [.NotEq] [.List [] p4] pos) fun env st => ((if isDrw (lk env i) then .ok (.bl (!st.great.isEmpty)) st else .stuck : Res D)).bind fun x st => ofO (asB x) st :=
  st_of_se (pt_cmpR (op_neD hu) (pe_dget (by omega) hv pe_str nosl_str) (pe_lst pa_nil) rfl) fun σ H Q z => gne_read hK oi z
theorem se_popg {ap cp p4 : Pos} {j2 : Nat} (hu : X.A.units + 1 < cLine) (hv : PE X (.Name x p1) (tVar i)) (oi : Ω i = false) (hline : (ap.endLine == cp.line) = true) :
    SE W X g Ω .rep (.Call (.Attribute (drE x "great" j p1 p2 p3) "pop" ap) [.Constant (.int 0) j2 p4] [] cp) fun env st => if isDrw (lk env i) then popG st else .stuck :=
  PE.imp (pe_bm PySem.F.plainAttrs_list PySem.F.slot_list_pop PySem.F.type_list_pop mt_popAt (pe_dget hu hv pe_str nosl_str) (pa_cons pe_int pa_nil) rfl rfl hline) fun σ H Q ⟨env, F, st, gr, z⟩ => by
    dsimp only at z
    split at z
    case isFalse => exact z.elim
    rename_i h
    obtain ⟨a, h1, h2, h3⟩ := gr.drw oi h
    obtain ⟨k1, k2, k3, k4, k5⟩ := W.dr H st a gr.inv h2
    unfold popG at z
    split at z
    case h_2 => exact z.elim
    rename_i gg gs hgs
    refine ⟨.ref a, h1, a, .ref W.Ld, rfl, by rw [← ds_great W.Ld W.Cd st]; exact DGet.k (k := .inr "great") k1, .inl ⟨rfl, _, SqL.of k2⟩, ?_⟩
    have k2' := k2
    rw [hgs] at k2'
    refine ⟨W.Ld, _, 0, 0, .int gg, rfl, rfl, k2', by decide, by decide, by simp [seqIndex?], rfl, ?_⟩
    exact z (.int gg) _ F (gr.mut k4 (fun c q z => by rw [k2] at z; cases z) (W.drPop H st a gg gs gr.inv h2 hgs)) (Fx.mut (by rw [k2]; simp)) (.int _)
theorem ss_drSet {f : Nat} {s : Stmt} {e : Expr} {fe : Fe} {vs : List Nat} (hf : f ≤ 1) (hp : ∀ t, PE X e t → PS X s (sDPut (tVar i) (tC (.str (drName f))) t)) (h : ∀ Ω, (∀ j ∈ vs, Ω j = false) → SE W X g Ω .rep e fe) :
    SS W X g s fun s st => (fe s.1 st).bind fun d st => (ofO (asI d) st).bind fun k st => if isDrw (lk s.1 i) then (ofO (drPutS f k st) st).bind fun st' _ => .ok ((s.1, frz s.2 (i :: vs)), .nx) st' else .stuck :=
  PS.imp (hp _ (PE.ex (ι := { Ω : Nat → Bool // ∀ j ∈ vs, Ω j = false }) fun Ω => h Ω.1 Ω.2)) fun De σ H ⟨env, own, F, st, gr, z⟩ => by
    obtain ⟨F1, g1, l1⟩ := gr.freeze (i :: vs)
    refine ⟨⟨Ωo (frz own (i :: vs)), fun k hk => frz_out (List.mem_cons_of_mem _ hk)⟩, env, F1, st, g1, z.bind.mono fun d st1 z v H1 F2 g2 fx2 r2 => ?_⟩
    obtain ⟨k, e, z⟩ := Wn.ofO z.bind
    cases d with
    | int i' =>
      cases e
      dsimp only at z
      split at z
      case isFalse => exact z.elim
      rename_i hd
      obtain ⟨a, h1, h2, h3⟩ := g2.drw (frz_out List.mem_cons_self) hd
      obtain ⟨k1, k2, k3, k4, k5⟩ := W.dr H1 st1 a g2.inv h2
      obtain ⟨st', e', z⟩ := Wn.ofO z.bind
      have hv := Rep.int_inv r2
      subst hv
      refine ⟨.ref a, h1, a, ?_⟩
      match f, hf with
      | 0, _ =>
        cases e'
        refine ⟨_, rfl, DPut.k (k := .inr "rest") k1 (by show 4 < sizeLine; decide), ?_⟩
        rw [put_rest]
        exact z σ _ F2 (g2.mut k3 (fun c q z => by rw [k1] at z; cases z) (W.drPut H1 st1 { st1 with rest := k } a g2.inv h2 rfl rfl)) (l1.trans fx2.le)
      | 1, _ =>
        cases e'
        refine ⟨_, rfl, DPut.k (k := .inr "turn") k1 (by show 4 < sizeLine; decide), ?_⟩
        rw [put_turn]
        exact z σ _ F2 (g2.mut k3 (fun c q z => by rw [k1] at z; cases z) (W.drPut H1 st1 { st1 with turn := k } a g2.inv h2 rfl rfl)) (l1.trans fx2.le)
    | _ => cases e
end
end Ev
/-! Ev15: from the text to the compact tree. -/
namespace Ev
open PySem PySem.Spec PyProof.Rows L2 LamX

/-- what is known of a text -/
structure TB where
  N : List Str
  M : List Nat := []
  fns : List Str := []
  kfns : List (Str × Nat × List Str × List Nat) := []
  consts : List Str := []
  excs : List Str := []
  fexcs : List Str := []
  gcd : Bool := false
  lam : Bool := false
  drs : Bool := false
  clo : Bool := false
  lamv : List Nat := []
def TB.noLam (T : TB) : TB := { T with lam := false }
def ixOf (N : List Str) (x : Str) : Option Nat := N.findIdx? fun y => decide (y = x)
def visB (sc : Scope) (x : Str) : Bool := match sc.names.lookup x with
  | some .local => true
  | some .cell => true
  | some .free => true
  | _ => false
def locB (sc : Scope) (x : Str) : Bool := match sc.names.lookup x with
  | some .local => true
  | some .cell => true
  | _ => false
def glB (sc : Scope) (x : Str) : Bool := decide (sc.names.lookup x = some .globalImplicit)
def okN (x : Str) : Bool := !(x == ("__debug__" : Str)) && !(x == ("__classdict__" : Str)) && !decide (x = "__name__")
def toEs : List E → Es
  | [] => .nil
  | t :: ts => .cons t (toEs ts)
def toSs : List S → Ss
  | [] => .nil
  | t :: ts => .cons t (toSs ts)
def notStar : Expr → Bool
  | .Starred _ _ => false
  | _ => true
def trC : Const → E
  | .none => .non
  | .bool b => .bl b
  | .int i => .int i
  | .str x => .str x
  | _ => .bad
def trN (T : TB) (b : Bool) (sc : Scope) (x : Str) : E := if okN x then match ixOf T.N x with
  | some i => if visB sc x then (if b then .bor i else .var i) else .bad
  | none => if glB sc x && T.consts.contains x then .glob x else .bad
  else .bad
def trBop : Operator → Option Bop
  | .Add => some .add | .Sub => some .sub | .Mult => some .mul | .FloorDiv => some .fdiv | .Mod => some .mod | .Pow => some .pow
  | _ => none
def trCop : CmpOp → Option Cop
  | .Eq => some .eq | .NotEq => some .ne | .Lt => some .lt | .LtE => some .le | .Gt => some .gt | .GtE => some .ge
  | .Is => some .is | .IsNot => some .isnot | .In => some .isin | .NotIn => some .notin
abbrev RE := Bool → Expr → E
def trBin (r : RE) (o : Operator) (a c : Expr) : E := match trBop o with
  | some o => .bin o (r true a) (r true c)
  | none => .bad
def trUn (r : RE) (o : UnaryOp) (a : Expr) : E := match o with
  | .Not => .not (r true a)
  | .USub => .neg (r true a)
  | _ => .bad
def trCmp (r : RE) (a : Expr) : List CmpOp → List Expr → E
  | [o], [c] => if behindInMarks o c then .bad else match trCop o with
    | some o => .cmp o (r true a) (r true c)
    | none => .bad
  | [o, p], [c, d] => if lastMarks [o, p] [c, d] then .bad else match trCop o, trCop p with
    | some o, some p => .cmp2 o p (r true a) (r true c) (r true d)
    | _, _ => .bad
  | _, _ => .bad
def trBool (r : RE) (op : BoolOp) : List Expr → E
  | [] => .bad
  | [a] => r false a
  | a :: b :: rest => match op with
    | .And => .and (r true a) (trBool r op (b :: rest))
    | .Or => .or (r true a) (trBool r op (b :: rest))
def trOp (r : RE) : Option Expr → Es
  | none => .nil
  | some e => .cons (r false e) .nil
def trSub (r : RE) (a : Expr) (i : Expr) : E := match i with
  | .Slice lo hi none _ => .slc (r true a) (trOp r lo) (trOp r hi)
  | .Slice _ _ (some _) _ => .bad
  | i => .ix (r true a) (r true i)
def tyOf : Str → Option Ty := fun x =>
  if x = "int" then some .int else if x = "bool" then some .bool else if x = "str" then some .str else if x = "tuple" then some .tuple else if x = "list" then some .list else if x = "dict" then some .dict else none
def nameOf : Expr → Option Str
  | .Name x _ => some x
  | _ => none
/-- names of built-in types -/
def tyNames (sc : Scope) : List Expr → Option (List Ty)
  | [] => some []
  | .Name x _ :: es => if glB sc x then match tyOf x, tyNames sc es with
      | some t, some ts => some (t :: ts)
      | _, _ => none
    else none
  | _ => none
def trIsi (T : TB) (sc : Scope) (t : E) (c : Expr) : E := match c with
  | .Name x _ => if glB sc x then match tyOf x with
      | some ty => .isin t [ty]
      | none => if okN x && (T.excs.contains x || T.fexcs.contains x) then .isin t [.cls x] else .bad
    else .bad
  | .Tuple ns _ _ => if ns.length ≤ 1000 then match tyNames sc ns with
      | some ts => .isin t ts
      | none => .bad
    else .bad
  | _ => .bad
def b1Of : Str → Option B1 := fun x =>
  if x = "len" then some .len else if x = "abs" then some .abs else if x = "int" then some .int else if x = "all" then some .all else if x = "any" then some .any else if x = "sum" then some .sum
  else if x = "tuple" then some .tuple else if x = "list" then some .list else if x = "sorted" then some .sorted else none
/-- a call of a built-in function -/
def trBlt (T : TB) (r : RE) (sc : Scope) (x : Str) : List Expr → E
  | [a] => match b1Of x with
    | some b => .b1 b (r true a)
    | none => .bad
  | [a, c] => if x = "isinstance" then trIsi T sc (r true a) c
    else if x = "gcd" then (if T.gcd then .gcd (r true a) (r true c) else .bad)
    else if x = "min" then .min2 (r true a) (r true c)
    else if x = "max" then .max2 (r true a) (r true c)
    else .bad
  | _ => .bad
def kwNames : List Keyword → Option (List Str)
  | [] => some []
  | ⟨some x, _, _⟩ :: ks => (kwNames ks).map (x :: ·)
  | _ => none
/-- a name or a constant -/
def isBase : Expr → Bool
  | .Name _ _ => true
  | .Constant _ _ _ => true
  | _ => false
def trMeth (r : RE) (o : Expr) (m : Str) (ap cp : Pos) (as : List Expr) : E := if ap.endLine == cp.line then match as with
    | [a] => if m = "join" then (if isBase o then .join (r true o) (r true a) else .bad) else .bad
    | [] => if m = "upper" then (if isBase o then .upper (r true o) else .bad) else .bad
    | _ => .bad
  else .bad
def trCall (T : TB) (r : RE) (sc : Scope) (f : Expr) (as : List Expr) (kws : List Keyword) (cp : Pos) : E := if as.all notStar then match f with
    | .Name x _ => if glB sc x && okN x then match kws with
        | [] => match as with
          | [] => if T.fns.contains x then .call x .nil else .bad
          | a :: as => if T.fns.contains x then .call x (toEs ((a :: as).map (r false))) else trBlt T r sc x (a :: as)
        | k :: kws => match kwNames (k :: kws) with
          | some ks => match T.kfns.find? fun p => decide (p.1 = x ∧ p.2.1 = as.length ∧ p.2.2.1 = ks) with
            | some p => .callk x (toEs (as.map (r false))) (toEs ((k :: kws).map fun k => r false k.value)) p.2.2.2
            | none => .bad
          | none => .bad
      else .bad
    | .Attribute o m ap => if kws.isEmpty then trMeth r o m ap cp as else .bad
    | _ => .bad
  else .bad
def trNs (N : List Str) (sc : Scope) : List Expr → Option (List Nat)
  | [] => some []
  | .Name x _ :: es => if locB sc x then match ixOf N x, trNs N sc es with
      | some i, some is => some (i :: is)
      | _, _ => none
    else none
  | _ => none
def trTg (N : List Str) (sc : Scope) : Expr → Tg
  | .Name x _ => if locB sc x then match ixOf N x with
      | some i => .nm i
      | none => .bad
    else .bad
  | .Tuple es _ _ => match trNs N sc es with
    | some is => .tp is
    | none => .bad
  | _ => .bad
def isTup : Expr → Bool
  | .Tuple _ _ _ => true
  | _ => false
def notSet : Expr → Bool
  | .Set _ _ _ => false
  | _ => true
/-- what is walked: by its value, or range, zip, enumerate -/
def trI (r : RE) (sc : Scope) (tg it : Expr) : I := match it with
  | .Call (.Name x p) as kws cp => if glB sc x && kws.isEmpty && as.all notStar then match as with
      | [a] => if x = "range" then .range1 (r false a) else if x = "enumerate" && isTup tg then .enum (r false a) else .e (r false (.Call (.Name x p) as kws cp))
      | [a, c] => if x = "range" then .range2 (r false a) (r false c) else if x = "zip" && isTup tg then .zip (r false a) (r false c) else .e (r false (.Call (.Name x p) as kws cp))
      | as => .e (r false (.Call (.Name x p) as kws cp))
    else .e (r false (.Call (.Name x p) as kws cp))
  | it => .e (r false it)
/-- a block's own names, with their slots -/
def ownOf (N : List Str) (scope : Scope) : List (Str × Nat) := scope.names.filterMap fun y => match y.2 with
  | .local => (ixOf N y.1).map fun i => (y.1, i)
  | .cell => (ixOf N y.1).map fun i => (y.1, i)
  | _ => none
def trComp (T : TB) (r r' : RE) (sc scope : Scope) (elt : Expr) : List Comprehension → E
  | [⟨tg, it, ifs, a⟩] =>
    let own := ownOf T.N scope
    let t := trTg T.N scope tg
    if decide (a = 0) && blkC T.N sc scope own && (tgs t).all (fun i => (own.map (·.2)).contains i) && notSet it && decide (ifs.length ≤ 1) then .comp (own.map (·.2)) t (trI r sc tg it) (toEs (ifs.map (r' true))) (r' false elt) else .bad
  | _ => .bad
/-- a lambda without parameters, alone -/
def lamOf : List Expr → Option (Arguments × Expr × Scope)
  | [.Lambda ps b s _] => some (ps, b, s)
  | _ => none
def noPar : Arguments → Bool
  | ⟨[], [], none, [], [], none, []⟩ => true
  | _ => false
def isCg (sc : Scope) (f : Expr) (kws : List Keyword) : Bool := match f with
  | .Name x _ => decide (x = "_law_caught") && glB sc x && kws.isEmpty
  | _ => false
/-- what a lambda captures -/
def capsOf (N : List Str) (scope : Scope) : List Nat := scope.names.filterMap fun y => match y.2 with
  | .free => ixOf N y.1
  | _ => none
/-- the slot and the field of state["rest"], state["turn"], state["cells"]; 3: state["great"] -/
def drOf (T : TB) (sc : Scope) (o i : Expr) : Option (Nat × Nat) := match o, i with
  | .Name x _, .Constant (.str s) _ _ => if visB sc x && okN x then match ixOf T.N x with
      | some k => if s = "rest" then some (k, 0) else if s = "turn" then some (k, 1) else if s = "cells" then some (k, 2) else if s = "great" then some (k, 3) else none
      | none => none
    else none
  | _, _ => none
def drTr (T : TB) (sc : Scope) (e : Expr) : Option E := if T.drs then match e with
    | .Subscript o i _ => match drOf T sc o i with
      | some (k, f) => if f ≤ 2 then some (.dr k f) else none
      | none => none
    | .Compare (.Subscript o i _) [.NotEq] [.List [] _] _ => match drOf T sc o i with
      | some (k, f) => if f = 3 then some (.gne k) else none
      | none => none
    | .Call (.Attribute (.Subscript o i _) m ap) [.Constant (.int 0) _ _] [] cp => match drOf T sc o i with
      | some (k, f) => if f = 3 ∧ m = "pop" ∧ (ap.endLine == cp.line) = true then some (.popg k) else none
      | none => none
    | _ => none
  else none
/-- the slot of a lambda that is handed to the def that catches -/
def cgvOf (T : TB) (sc : Scope) (f : Expr) (as : List Expr) (kws : List Keyword) : Option Nat := match as with
  | [.Name y _] => if isCg sc f kws && T.lam && T.clo && visB sc y && okN y then ixOf T.N y else none
  | _ => none
abbrev RecE := TB → Scope → Bool → Expr → E
def trE0 (T : TB) (rc : RecE) (sc : Scope) (b : Bool) (e : Expr) : E := match e with
    | .Constant c _ _ => trC c
    | .Name x _ => trN T b sc x
    | .Tuple es _ _ => if es.length ≤ 1000 then .tup (toEs (es.map (rc T sc false))) else .bad
    | .List es _ => if es.length ≤ 1000 then .lst (toEs (es.map (rc T sc false))) else .bad
    | .BinOp a o c _ => trBin (rc T sc) o a c
    | .UnaryOp o a _ => trUn (rc T sc) o a
    | .Compare a ops cs _ => trCmp (rc T sc) a ops cs
    | .BoolOp o es _ => if 2 ≤ es.length then trBool (rc T sc) o es else .bad
    | .IfExp c a d _ => .ite (rc T sc true c) (rc T sc b a) (rc T sc b d)
    | .Subscript a i _ => trSub (rc T sc) a i
    | .Dict [] [] _ => .dnew
    | .Call f as kws p => match lamOf as with
      | some (ps, bd, scope) => if isCg sc f kws && T.lam && lamSB sc scope && noPar ps then .caught (capsOf T.N scope) (rc T.noLam scope false bd) else .bad
      | none => match cgvOf T sc f as kws with
        | some i => .cgv i T.lamv
        | none => trCall T (rc T sc) sc f as kws p
    | .Lambda ps bd scope _ => if T.lam && T.clo && lamSB sc scope && noPar ps then .lam (rc T.noLam scope false bd) (capsOf T.N scope) else .bad
    | .Attribute o n _ => if isBase o then .fld (rc T sc true o) n else .bad
    | .ListComp elt gens scope _ => trComp T (rc T sc) (rc T.noLam (relS scope sc)) sc scope elt gens
    | _ => .bad
def trE (T : TB) (n : Nat) (sc : Scope) (b : Bool) (e : Expr) : E := match n with
  | 0 => .bad
  | n + 1 => match drTr T sc e with
    | some t => t
    | none => trE0 T (fun T sc b e => trE T n sc b e) sc b e

/-- trees whose list or dict nobody else holds -/
def freshE : E → Bool
  | .lst _ => true
  | .bin _ _ _ => true
  | .slc _ _ _ => true
  | .b1 .list _ => true
  | .b1 .sorted _ => true
  | .comp _ _ _ _ _ => true
  | .dnew => true
  | _ => false

/-! ### statements -/
def isLc : Expr → Bool
  | .ListComp _ _ _ _ => true
  | .SetComp _ _ _ _ => true
  | .DictComp _ _ _ _ _ => true
  | _ => false
/-- name = [..]: stored by the comprehension's block -/
def swB (sc : Scope) (y : Str) (py : Pos) : Expr → Bool
  | .ListComp _ _ scope pos => (py.line == pos.line) && decide (sc.names.lookup y = some .local) && !(scope.names.any fun (n, k) => n == y && (k == .local || k == .cell))
  | _ => false
def trSetN (T : TB) (r : RE) (sc : Scope) (x : Str) (v : Expr) : S := if locB sc x && okN x then match ixOf T.N x with
    | some i => .asg (.nm i) (T.M.contains i && freshE (r false v)) (r false v)
    | none => .bad
  else .bad
def swNames (sc : Scope) (ts : List Expr) : List Str := ts.filterMap fun
    | .Name id pos => if sc.names.lookup id == some .local && pos.line == (ts.head?.map (·.pos.line)).getD 0 then some id else none
    | _ => none
/-- a, b = x, y: stored from the right -/
def swapN (sc : Scope) (ts vs : List Expr) : Option (List Str) :=
  if !(ts.length == 2 || ts.length == 3) || vs.length != ts.length then none else
  if vs.any (fun | .Starred .. => true | _ => false) then none else
  if (swNames sc ts).length != ts.length || (swNames sc ts).eraseDups.length != (swNames sc ts).length then none else
  if vs.all (foldedForSure 8) then none else some (swNames sc ts)
def trTup (T : TB) (r : RE) (sc : Scope) (ts : List Expr) (tg v : Expr) : S := match v with
  | .Tuple vs _ _ => match swapN sc ts vs with
    | none => .asg (trTg T.N sc tg) false (r false v)
    | some _ => match ts, vs with
      | [.Name x _, .Name y _], [a, b] => if vs.all (constantsAlone 8) then .bad else match ixOf T.N x, ixOf T.N y with
        | some i, some j => if i == j then .bad else .par i j (r false a) (r false b)
        | _, _ => .bad
      | _, _ => .bad
  | .Call (.Attribute (.Name x p) m ap) [] [] cp => if m = "pop" && visB sc x && okN x && (ap.endLine == cp.line) then match ixOf T.N x with
      | some i => .pop (trTg T.N sc tg) i
      | none => .bad
    else .bad
  | v => .asg (trTg T.N sc tg) false (r false v)
def trAsg (T : TB) (r : RE) (sc : Scope) (tg v : Expr) : S := match tg with
  | .Name x _ => trSetN T r sc x v
  | .Tuple ts _ _ => if isLc v then .bad else trTup T r sc ts tg v
  | .Subscript o i _ => if T.drs && !isLc v then match drOf T sc o i with
      | some (k, f) => if f ≤ 1 then .drSet k f (r false v) else .bad
      | none => .bad
    else .bad
  | _ => .bad
def trExp (T : TB) (r : RE) (sc : Scope) (v : Expr) : S := match v with
  | .Constant (.str _) _ _ => .pass
  | .Call (.Attribute (.Name x p) m ap) [e] [] cp => if visB sc x && okN x && (ap.endLine == cp.line) && notStar e then match ixOf T.N x with
      | some i => if m = "append" then .app i (r false e) else if m = "extend" then .ext i (r false e) else .bad
      | none => .bad
    else .bad
  | v => if isLc v then .bad else .exp (r true v)
def trRaise (T : TB) (r : RE) (sc : Scope) (e : Expr) : S := match e with
  | .Call (.Name x _) [.Constant (.str m) _ _] [] _ => if glB sc x && okN x && T.excs.contains x then .raise0 x else if glB sc x && okN x && T.fexcs.contains x then .raise x (.cons (.str m) .nil) else .bad
  | .Call (.Name x _) [a] [] _ => if glB sc x && okN x && T.fexcs.contains x && notStar a then .raise x (.cons (r false a) .nil) else .bad
  | _ => .bad
def trS (T : TB) (m : Nat) (sc : Scope) : Nat → Stmt → S
  | 0, _ => .bad
  | n + 1, s => match s with
    | .Expr v _ => trExp T (trE T m sc) sc v
    | .Pass _ => .pass
    | .Continue _ => .cont
    | .Return (some e) _ => .ret (trE T m sc false e)
    | .Return none _ => .retN
    | .If c a b _ => .ite (trE T m sc true c) (toSs (a.map (trS T m sc n))) (toSs (b.map (trS T m sc n)))
    | .For tg it b [] _ => if notSet it then .for_ (trTg T.N sc tg) (trI (trE T m sc) sc tg it) (toSs (b.map (trS T m sc n))) else .bad
    | .While c b [] _ => .while_ (trE T m sc true c) (toSs (b.map (trS T m sc n)))
    | .Assign [tg] v _ => trAsg T (trE T m sc) sc tg v
    | .Raise (some e) none _ => trRaise T (trE T m sc) sc e
    | _ => .bad
def trSs (T : TB) (sc : Scope) (ss : List Stmt) : Ss := toSs (ss.map (trS T 60 sc 60))
end Ev
/-! Ev24: a try whose clause keeps the error; a lambda made. -/
namespace Ev
open PySem PySem.Spec PyProof.Rows L2 LamX
section
variable {X : Cx} {pins : List (Addr × Obj)} {σ : L2.St} {H : Hp} {s : Shared}
/-- the error stays pinned behind the suite -/
theorem unsuitePin {a : Addr} {oe : Obj} (I : Inv (X.suite a ((a, oe) :: (X.pn ++ pins))) [] σ H s) (ok : X.Ok) : Inv X (pins ++ [(a, oe)]) σ H s :=
  ⟨ok, I.os, I.bare, I.base, I.loc, I.cell, I.free, I.freeC, fun p hp => I.pin p (List.mem_append_left _ (by
    rcases List.mem_append.mp hp with h | h
    · exact List.mem_cons_of_mem _ (List.mem_append_left _ h)
    · rcases List.mem_append.mp h with h | h
      · exact List.mem_cons_of_mem _ (List.mem_append_right _ h)
      · rw [List.mem_singleton.mp h]; exact List.mem_cons_self)), I.hok, I.len⟩
/-- how such a try ends -/
def TryEnd (X : Cx) (pins : List (Addr × Obj)) (Qn : L2.St → Hp → Prop) (Qx : Addr → Value → Option Addr → L2.St → Hp → Prop) (f : Flow) (s' : Shared) : Prop :=
  f = .next ∧ ((∃ σ' H', Inv X pins σ' H' s' ∧ Qn σ' H') ∨ ∃ a oe vs cls d σ' H', Zc cls d oe ∧ oe.data = .fields vs ∧ X.s_0.heap.get? a = none ∧ Inv X (pins ++ [(a, oe)]) σ' H' s' ∧ Qx a cls d σ' H')
/-- what the clause wishes of an error of the body: it names all of them -/
def wPin (K : PySem.W.Frag) (c : Value) (i j : Nat) (Qx : Addr → Value → Option Addr → L2.St → Hp → Prop) : WX := fun cls d σ H => PySem.W.exmOne K cls c = some true ∧ ∀ a, H a = none → Qx a cls d (((σ.set i (some (.ref a))).set j (some (.ref a))).set i none) H
theorem try_pin {x n y : Str} {c : Value} {i j : Nat} {body : List Stmt} {np pos pos' px py ps : Pos} {tb : WX → TS} {Qn : L2.St → Hp → Prop} {Qx : Addr → Value → Option Addr → L2.St → Hp → Prop}
    (hs : X.stack = X.env :: X.outer) (hf : X.env.frame = some X.env.locals) (hex : X.ex = []) (hN : X.N.Nodup) (hi : X.N[i]? = some n) (hln : X.env.scope.names.lookup n = some .local) (hj : X.N[j]? = some y) (hly : X.env.scope.names.lookup y = some .local) (hij : i ≠ j) (hc : Names X x c)
    (hdn : (n == ("__debug__" : Str)) = false) (hcn : (n == ("__classdict__" : Str)) = false)
    (hb : ∀ (W : WX) (pn : List (Addr × Obj)) (xe : Value → Shared → Prop), Takes (X.tr pn xe) W → PassesOwn (model X.prog X.w) X.A X.env xe → PSs (X.tr pn xe) body (tb W))
    (I : Inv X pins σ H s) (h : tb (wPin X.K c i j Qx) { nx := Qn, rt := fun _ _ => False } σ H) :
    wpAny (model X.prog X.w) X.A (exec (.Try body [.ExceptHandler (some (.Name x np)) (some n) [.Assign [.Name y py] (.Name n px) ps] pos'] [] [] pos) X.env) (TryEnd X pins Qn Qx) X.xe s := by
  have ok := I.ok
  have hfr : X.A.frames = some (X.env :: X.outer) := by rw [ok.frames, hs]
  have hloc : L2.Loc X.env.scope n := .inl hln
  have hkn : X.env.kindOf n = some .local := hln
  refine wpAny_Try_except ?_
  refine wpAny_mono ((hb (wPin X.K c i j Qx) (X.pn ++ pins) (fun e s₁ => wpAny (model X.prog X.w) X.A (noteFrame e X.env) (fun _ s₂ => wpAny (model X.prog X.w) X.A (setFlight e none) (fun _ s₃ =>
    wpAny (model X.prog X.w) X.A (handleBy e X.env [.ExceptHandler (some (.Name x np)) (some n) [.Assign [.Name y py] (.Name n px) ps] pos']) (TryEnd X pins Qn Qx) X.xe s₃) X.xe s₂) X.xe s₁) (fun u s' xx => ?_) PassesOwn.looking).run [] s σ H _ (I.toTry _) h) (fun f s1 hsp => ?_) (fun e s1 he => he)
  · obtain ⟨a, B, sI, pins', σ', H', cls, d, rfl, J', nb, up, sky, na, os, ag, hyes, hq⟩ := xx
    have J : Inv X pins σ' H' sI := J'.ofTry ok
    have sky' : Sky B (X.env :: X.outer) a (Zc cls d) X.env.locals s'.heap := by rw [← hs]; exact sky
    show wpAny (model X.prog X.w) X.A (noteFrame (.ref a) X.env) _ _ _
    refine Sky.land Zc.steady hfr hf sky' fun h3 fl3 up3 => ?_
    have J3 : Inv X pins σ' H' { s' with heap := h3 } := J.landed nb fl3.1 (up.trans up3) os ag
    obtain ⟨oe3, vs3, he3, hz3, hd3⟩ := fl3.there
    have notFr : ∀ {h : Heap} {o : Obj} {vs : Array Value}, h.FunFrames B (X.env :: X.outer) → h.get? a = some o → o.data = .fields vs → a ∉ frs (X.env :: X.outer) := fun {h o vs} ff e dd hm => by
      obtain ⟨_, o', e', hnf⟩ := ff.mem hm
      rw [e] at e'; cases e'
      exact hnf _ dd
    have nfr := notFr fl3.2.2.1 he3 hd3
    have nL : a ≠ X.env.locals := fun z => nfr (List.mem_filterMap.mpr ⟨X.env, List.mem_cons_self, by rw [hf, z]⟩)
    have nF : a ∉ X.fs := fun hm => by
      obtain ⟨e, he, q⟩ := List.mem_filterMap.mp hm
      exact nfr (List.mem_filterMap.mpr ⟨e, List.mem_cons_of_mem _ he, q⟩)
    have new : X.s_0.heap.get? a = none := by
      cases q : X.s_0.heap.get? a with
      | none => rfl
      | some o =>
        refine (?_ : False).elim
        obtain ⟨o', e'⟩ := J.base.there a o q (by rw [hex]; exact fun z => nomatch z)
        have z := nb a o' e' (by rw [hs]; exact nfr)
        rw [fl3.2.1] at z
        cases z
    have S3 := J3.suite he3 hd3 na nL nF
    refine wpAny_handleBy_cons (codeAny_handlers_test ?_) (by intro q; cases q)
    have LT : PySem.W.Looks (model X.prog X.w) h3 (typeOf (.ref a)) cls := fun A Q E s k q => wpAny_typeOf_ref (k _ _ he3) (by rw [hz3.1]; exact q)
    have LM := PySem.W.exm_one (M := model X.prog X.w) (J3.kIn) LT hyes
    have test : ∀ {Q : Value → Shared → Prop} {E : Value → Shared → Prop}, Q c { s' with heap := h3 } → wpAny (model X.prog X.w) (X.A.mark (some (.ref a))) (eval (.Name x np) X.env) Q E { s' with heap := h3 } := fun {Q E} q => by
      obtain ⟨hg, hdbg, hm | ⟨hm, hv, hnn⟩⟩ := hc
      · exact ld_glob (X := X.suite a ((a, oe3) :: (X.pn ++ pins))) S3 hg hm q hdbg
      · exact ld_blt (X := X.suite a ((a, oe3) :: (X.pn ++ pins))) S3 hg hm hv q hnn hdbg
    refine test (LM.here ?_)
    refine codeAny_handlers_suite_as ?_
    refine HandSPX.lands_againZ fl3 fun h4 fl4 up4 => ?_
    have J4 : Inv X pins σ' H' { s' with heap := h4 } := J.landed nb fl4.1 ((up.trans up3).trans up4) os ag
    obtain ⟨oe4, vs4, he4, hz4, hd4⟩ := fl4.there
    have S4 := J4.suite he4 hd4 na nL nF
    refine store_ok (X := X.suite a ((a, oe4) :: (X.pn ++ pins))) (v := .ref a) S4 hN hi hloc rfl (fun s5 S5 => ?_) (.inr hln)
    have il : i < σ'.length := by rw [J.len]; exact (List.getElem?_eq_some_iff.mp hi).1
    have pe : PE (X.suite a ((a, oe4) :: (X.pn ++ pins))) (.Name n px) (tVar i) := pe_var hi (.inl hln) hdn hcn
    have su : PSs (X.suite a ((a, oe4) :: (X.pn ++ pins))) [.Assign [.Name y py] (.Name n px) ps] (tAsg (tVar i) (gName j)) := pss_one (ps_set hN hj (.inl hly) pe rfl (.inr hly))
    refine wpAny_mono (su.run [] s5 _ H' { nx := fun σ6 H6 => σ6 = (σ'.set i (some (.ref a))).set j (some (.ref a)) ∧ H6 = H', rt := fun _ _ => False } S5 ⟨.ref a, List.getElem?_set_self il, rfl, rfl⟩) (fun f s6 hsp => ?_) (fun _ _ z => False.elim z)
    cases f with
    | next =>
      obtain ⟨σ6, H6, S6, e6, e7⟩ := hsp
      subst e6 e7
      refine gone_ok (unsuitePin S6 ok) hN hi hkn fun s7 J7 => ⟨rfl, .inr ⟨a, oe4, vs4, cls, d, _, _, hz4, hd4, new, J7, hq a na⟩⟩
    | brk => obtain ⟨_, _, _, q⟩ := hsp; exact q.elim
    | cont => obtain ⟨_, _, _, q⟩ := hsp; exact q.elim
    | ret u => obtain ⟨_, _, _, _, _, q⟩ := hsp; exact q.elim
  · cases f with
    | next =>
      obtain ⟨σ', H', J', q⟩ := hsp
      exact wpAny_execs_nil ⟨rfl, .inl ⟨σ', H', J'.ofTry ok, q⟩⟩
    | brk => obtain ⟨_, _, _, q⟩ := hsp; exact q.elim
    | cont => obtain ⟨_, _, _, q⟩ := hsp; exact q.elim
    | ret u => obtain ⟨_, _, _, _, _, q⟩ := hsp; exact q.elim
end
end Ev
/-! Ev25a: the def that catches. -/
namespace Ev
open PySem PySem.Spec PyProof.Rows L2
/-- the def that calls what it gets, and gives the error back that it raises, or None -/
structure CgDef (K : PySem.W.Frag) (mg : Str → Option Value) (CS : Addr) (st : Stmt) (g : Addr) (fd : FuncData) : Prop where
  fn : Fun K "_law_caught" "_law_caught" st g fd
  sc : FnScope ["action", "found", "error"] ["action"] (defScope st)
  la : (defScope st).names.lookup ("action" : Str) = some .local
  lf : (defScope st).names.lookup ("found" : Str) = some .local
  le : (defScope st).names.lookup ("error" : Str) = some .local
  ls : (defScope st).names.lookup ("StepError" : Str) = some .globalImplicit
  body : ∃ (j : Nat) (p1 p2 p3 p4 p5 p6 p7 p8 p9 p10 p11 p12 p13 p14 : Pos), defBody st = [.Assign [.Name "found" p1] (.Constant .none j p2) p3,
    .Try [.Expr (.Call (.Name "action" p4) [] [] p5) p6] [.ExceptHandler (some (.Name "StepError" p7)) (some "error") [.Assign [.Name "found" p8] (.Name "error" p9) p10] p11] [] [] p12, .Return (some (.Name "found" p13)) p14]
  binds : Binds K fd ["action"] []
  mgg : mg "_law_caught" = some (.ref g)
  mgs : mg "StepError" = some (.ref CS)
end Ev
/-! Ev25: x(lambda: body), x the def that gives the caught error back. -/
namespace Ev
open PySem PySem.Spec PyProof.Rows L2 LamX
section
variable {X : Cx} {pins : List (Addr × Obj)} {σ : L2.St} {H : Hp} {s : Shared}
/-- a lambda is made; what becomes of the heap is told -/
theorem lam_mk {T : List (Addr × Str)} {c P : Addr} {params : Arguments} {body : Expr} {scope : Scope} {pos : Pos} {E : Value → Shared → Prop} {Q : Value → Shared → Prop} (I : Inv X pins σ H s) (TB : TabB X.base X.mg c P) (hcode : X.env.code = .ref c)
    (hm : (P, X.env.qual ++ "<lambda>") ∈ T) (hu : ∀ p ∈ T, p.1 = P → p.2 = X.env.qual ++ "<lambda>") (hT : Tabs T H) (hdef : defaultsOf params X.env = ([], [])) (hfree : ∀ y ∈ scope.names, y.2 = .free → ∃ c, X.env.cells.lookup y.1 = some c)
    (h : ∀ (f c' : Addr) (pm ctv : Value) (H1 : Hp) (s' : Shared), Inv X pins σ H1 s' → (H1 = H ∨ ∃ ps, H c' = none ∧ H1 = upd (upd H P (.tbl ps)) c' (CodeO c' (X.env.qual ++ "<lambda>"))) → Tabs T H1 →
      s'.heap.get? f = some (PySem.W.kla_obj "<lambda>" (X.env.qual ++ "<lambda>") params body scope (cloFrom X.env.cells scope.names []) pm c' ctv) → H1 f = none → f ∉ frs X.stack → H1 c' = some (CodeO c' (X.env.qual ++ "<lambda>")) → s.heap.objs.size ≤ f → Q (.ref f) s') :
    wpAny (model X.prog X.w) X.A (eval (.Lambda params body scope pos) X.env) Q E s := by
  obtain ⟨ps, hP, ht, ha⟩ := hT _ hm
  refine PySem.W.kla_eval hdef ?_
  have bP : s.heap.BuiltinsAt X.mg P := TB.bm.keeps I.bk
  have hP' : s.heap.get? P = some { cls := .none, data := .fields ps } := I.hok P _ hP
  have nofr : ∀ f, s.heap.objs.size ≤ f → f ∉ frs X.stack := fun f hf z => by
    rcases List.mem_cons.mp (I.stkSub _ z) with e | e
    · have h1 := I.lt
      rw [← e] at h1
      exact Nat.lt_irrefl _ (Nat.lt_of_lt_of_le h1 hf)
    · exact I.nofs hf e
  cases hc : codeAmong pos ps.toList with
  | none =>
    refine PySem.W.kla_makeFunction (mg := X.mg) (c := c) (P := P) (ps := ps) (closure_ok hfree) I.ok.glob (I.mod.glob.keeps I.bk) hcode (TB.code.keeps I.bk) hP' ht hc TB.gP bP fun c' ctv h' tk hx hge hlt hrec htb => ?_
    obtain ⟨c2, oc, vs, t, e2, hoc, hd, hv⟩ := hrec
    cases e2
    have hsz : s.heap.objs.size ≤ h'.objs.size := Nat.le_trans hge (Nat.le_of_lt hlt)
    have nC : H c' = none := I.hok.fresh hge
    have I1 := inv_table (t' := tk) (more := #[rawInt pos.line, rawInt pos.col, .ref c']) (h' := h'.push (PySem.W.kla_obj "<lambda>" (X.env.qual ++ "<lambda>") params body scope (cloFrom X.env.cells scope.names []) ((X.mg "__name__").getD .none) c' ctv)) I hP
      (fun b o hb e => Heap.get?_push_of_some _ (hx b o hb e)) (Heap.get?_push_of_some _ htb) hge ⟨oc, vs, t, Heap.get?_push_of_some _ hoc, hd, hv⟩
    have keepC : ∀ b o, H b = some o → (∀ ps, o ≠ .tbl ps) → upd (upd H P (.tbl (ps ++ #[rawInt pos.line, rawInt pos.col, .ref c']))) c' (CodeO c' (X.env.qual ++ "<lambda>")) b = some o := fun b o e n => by
      rw [upd_ne (ne_of_none e nC), upd_ne (fun z => n ps (Option.some.inj (e.symm.trans (by rw [z]; exact hP))))]
      exact e
    have eL : (ps ++ #[rawInt pos.line, rawInt pos.col, .ref c']).toList = ps.toList ++ [rawInt pos.line, rawInt pos.col, .ref c'] := by simp
    refine h h'.objs.size c' ((X.mg "__name__").getD .none) ctv _ _ I1 (.inr ⟨_, nC, rfl⟩) (fun p hp => ?_) (Heap.get?_push_size _ rfl) ?_ (nofr _ hsz) upd_same hsz
    · by_cases hb : p.1 = P
      · rw [hu p hp hb, hb]
        refine ⟨_, by rw [upd_ne (ne_of_none hP nC), upd_same], by rw [eL]; exact PySem.TriplesOk_snoc _ _ _ _ ht, fun p' cv hcv => ?_⟩
        rw [eL] at hcv
        rcases among_app _ ht hcv with z | z
        · obtain ⟨c0, e1, e2⟩ := ha p' cv z
          exact ⟨c0, e1, keepC _ _ e2 codeO_ne⟩
        · exact ⟨c', z, upd_same⟩
      · obtain ⟨ps', a1, a2, a3⟩ := hT p hp
        refine ⟨ps', by rw [upd_ne (ne_of_none a1 nC), upd_ne hb]; exact a1, a2, fun p' cv hcv => ?_⟩
        obtain ⟨c0, e1, e2⟩ := a3 p' cv hcv
        exact ⟨c0, e1, keepC _ _ e2 codeO_ne⟩
    · have n1 : h'.objs.size ≠ c' := Nat.ne_of_gt hlt
      have n2 : h'.objs.size ≠ P := Nat.ne_of_gt (Nat.lt_of_lt_of_le (Heap.lt_size hP') hsz)
      rw [upd_ne n1, upd_ne n2]
      exact I.hok.fresh hsz
  | some cv =>
    obtain ⟨c', e, hco⟩ := ha pos cv hc
    subst e
    refine PySem.W.kla_makeFunctionHit (mg := X.mg) (c := c) (P := P) (ps := ps) (closure_ok hfree) I.ok.glob (I.mod.glob.keeps I.bk) hcode (TB.code.keeps I.bk) hP' ht hc bP fun ctv h' tk hx hsz => ?_
    have I1 : Inv X pins σ H { s with heap := h'.push (PySem.W.kla_obj "<lambda>" (X.env.qual ++ "<lambda>") params body scope (cloFrom X.env.cells scope.names []) ((X.mg "__name__").getD .none) c' ctv), toks := tk } := I.kept fun b o e => Heap.get?_push_of_some _ (hx b o e)
    exact h h'.objs.size c' ((X.mg "__name__").getD .none) ctv H _ I1 (.inl rfl) hT (Heap.get?_push_size _ rfl) (I.hok.fresh hsz) (nofr _ hsz) hco hsz
end

theorem excT_ok {P : Program} {w : World} {H : Hp} {h : Heap} {a : Addr} {cls : Value} {d : Option Addr} {oe : Obj} {vs : Array Value} (e : h.get? a = some oe) (z : Zc cls d oe) (hd : oe.data = .fields vs) : ObjOk P w H h a (ExcT cls d a) :=
  ⟨⟨oe, vs, e, z, hd⟩, ⟨oe, e⟩, fun _ _ ⟨o, v, q, r⟩ k => ⟨o, v, k o q, r⟩⟩
section
variable {X : Cx}
/-- what is wished of an error of the body -/
def wCg (K : PySem.W.Frag) (CS : Addr) (Q : VK) : XK := fun cls d H => PySem.W.exmOne K cls (.ref CS) = some true ∧ ∀ a, H a = none → Q (.ref a) (upd H a (ExcT cls d a))
/-- x(lambda: body): t tells the body, in the state of the maker -/
theorem pe_caught {T : List (Addr × Str)} {c P g CS : Addr} {k : Nat} {st : Stmt} {fd : FuncData} {params : Arguments} {body : Expr} {scope : Scope} {t : XK → TE} {p lpos pos : Pos} (G : CgDef X.K X.mg CS st g fd) (hg : Gl X "_law_caught")
    (TB : TabB X.base X.mg c P) (hcode : X.env.code = .ref c) (hmT : (P, X.env.qual ++ "<lambda>") ∈ T) (hu : ∀ p ∈ T, p.1 = P → p.2 = X.env.qual ++ "<lambda>") (hr : Room (k + 2) X.A) (L : LamS X.env.scope scope) (hdef : defaultsOf params X.env = ([], []))
    (hbind : ∀ (q : Str) (cl : List (Str × Addr)) (pm cv ctv : Value), bindArgs (PySem.W.kla_fn "<lambda>" q params body scope cl pm cv ctv) ⟨[], []⟩ = pure [])
    (hbody : ∀ (A : Around) (outer : List PySem.Env) (s : Shared) (H : Hp) (E : XK) (f c' : Addr), Room k (A.deeper (lamEnv X scope s.heap.objs.size f c')) → PE (lamCx X A outer s H E scope f c') body (t E)) :
    PE X (.Call (.Name "_law_caught" p) [.Lambda params body scope lpos] [] pos) (fun σ H Q => Tabs T H ∧ ∀ H1 c', (H1 = H ∨ ∃ ps, H c' = none ∧ H1 = upd (upd H P (.tbl ps)) c' (CodeO c' (X.env.qual ++ "<lambda>"))) → Tabs T H1 → t (wCg X.K CS Q) σ H1 fun _ H' => Q .non H') := by
  refine ⟨fun pins s σ H Q I h => ?_⟩
  obtain ⟨hT, h⟩ := h
  obtain ⟨oc, od, kV, doc, pm0, an, cdv, ct, osl, efd, lk, hcd⟩ := G.fn.ex
  refine wpAny_Call_Name_kw (ld_glob I hg G.mgg ?_ (by decide))
  refine PySem.W.callWith_K (h₀ := X.base) I.ok.mod.kin G.fn.kp ?_ (by rfl) (by rfl)
  show wpAny _ _ (spliced ((false, eval (.Lambda params body scope lpos) X.env) :: backTo pos (starEach [] X.env))) _ _ s
  refine Calls.spliced_cons (lam_mk I TB hcode hmT hu hT hdef (L.has I.ok) fun f c' pm' ctv H1 s' I1 eN T1 hf hfn hfr hco _ => ?_)
  refine Calls.spliced_nil ⟨I1.kIn, ?_⟩
  have q := h H1 c' eN T1
  have e0 := I1.env0
  have KX : X.K.In s'.heap := I1.kIn
  have lim : s'.heap.NoLimit := e0.mod.nolimit.keeps fun b o e => (e0.bs b o e).1
  have hkind : ∀ y ∈ (["action"] : List Str).zip [Value.ref f], (defScope st).names.lookup y.1 = some .local ∨ ((defScope st).names.lookup y.1 = some .cell ∧ ((cellsFrom (s'.heap.objs.size + 1) (defScope st).names []).lookup y.1).isSome = true) := fun ⟨n, v⟩ hy => by
    have e : n = "action" := by simpa using (List.of_mem_zip hy).1
    subst e
    exact .inl G.la
  have rc : codeAny (model X.prog X.w) X.A (.call (.ref g) ⟨[.ref f], []⟩) (CR C8.CX0 X.stack X.prog X.w H1 s' Q C8.E0) s' := by
    have hbd := G.binds s' [.ref f] KX rfl
    rw [efd] at hbd lk
    refine codeAny_call_function hr.depth (KX _ _ lk) rfl G.sc.co G.sc.gen rfl (PySem.W.codeRec_of KX hcd) (hbd _ _ _ _ ?_)
    refine wpAny_newFunctionEnv_cells G.sc.kind hkind fun env he s1 x => ?_
    subst he
    refine ⟨lim.keeps x.toInCall.keep, codeAny_func ?_⟩
    have hr' := hr.deeper (envOfC "_law_caught" (defScope st) s'.heap.objs.size g cdv)
    have I0 : Inv (cxOf C8.CX0 X.prog X.w X.K X.mg X.base ["action", "found", "error"] "_law_caught" (defScope st) g cdv X.A X.stack s' H1 C8.E0) [] (L2.start ["action", "found", "error"] [.ref f]) H1 s1 := inv_start G.sc hr.hd e0 rfl (.cons rfl .nil) x
    obtain ⟨j, p1, p2, p3, p4, p5, p6, p7, p8, p9, p10, p11, p12, p13, p14, eb⟩ := G.body
    rw [eb]
    have nd : (["action", "found", "error"] : List Str).Nodup := by decide
    have fin : ∀ {pins' : List (Addr × Obj)} {σ' : L2.St} {H' H'' : Hp} {s2 : Shared} {v : V} {u : Value}, Inv (cxOf C8.CX0 X.prog X.w X.K X.mg X.base ["action", "found", "error"] "_law_caught" (defScope st) g cdv X.A X.stack s' H1 C8.E0).nox pins' σ' H' s2 → RelV v u → Q v H'' →
        Un (frs X.stack) [] H1 H'' s'.heap s2.heap → HOk X.prog X.w H'' s2.heap → CE X.stack X.prog X.w H1 s' Q u s2 := fun J rv q u hok => ⟨_, _, J.os, J.bare, u, hok, rv, q⟩
    refine wpAny_mono (E := fun _ _ => False) (Q := fun fl s2 => ∃ u, fl = .ret u ∧ CE X.stack X.prog X.w H1 s' Q u s2) ?_ (fun fl s2 ⟨u, e, z⟩ => by subst e; exact z) fun _ _ z => z.elim
    have I0 := I0.wish (fun _ _ => False)
    have s1s := ps_set (X := (cxOf C8.CX0 X.prog X.w X.K X.mg X.base ["action", "found", "error"] "_law_caught" (defScope st) g cdv X.A X.stack s' H1 C8.E0).nox) (i := 1) (x := "found") (pos' := p1) (pos := p3) nd rfl (.inl G.lf) (pe_non (j := j) (pos := p2)) rfl (.inl rfl)
    refine wpAny_execs_cons (thn (s1s.run [] s1 _ H1 { nx := fun σ2 H2 => σ2 = [some (.ref f), some .non, none] ∧ H2 = H1, rt := fun _ _ => False } I0 ⟨rfl, rfl⟩) fun fl s2 hs2 => ?_)
    cases fl with
    | brk => obtain ⟨_, _, _, q⟩ := hs2; exact q.elim
    | cont => obtain ⟨_, _, _, q⟩ := hs2; exact q.elim
    | ret u => obtain ⟨_, _, _, _, _, q⟩ := hs2; exact q.elim
    | next =>
      obtain ⟨σ2, H2, I2, e1, e2⟩ := hs2
      subst e1 e2
      refine wpAny_execs_cons (thn (try_pin (X := (cxOf C8.CX0 X.prog X.w X.K X.mg X.base ["action", "found", "error"] "_law_caught" (defScope st) g cdv X.A X.stack s' H2 C8.E0).nox) (i := 2) (j := 1) (c := .ref CS)
        (tb := fun W D σZ HZ => ∃ Ech : XK, (∀ cls d σ' H', Ech cls d H' → W cls d σ' H') ∧ σZ[0]? = some (some (.ref f)) ∧ HZ c' = some (CodeO c' (X.env.qual ++ "<lambda>")) ∧ t Ech σ HZ fun _ H' => D.nx σZ H')
        (Qn := fun σ3 H3 => σ3 = [some (.ref f), some .non, none] ∧ Q .non H3) (Qx := fun a cls d σ3 H3 => (∃ σ0 : L2.St, σ3 = ((σ0.set 2 (some (.ref a))).set 1 (some (.ref a))).set 2 none) ∧ Q (.ref a) (upd H3 a (ExcT cls d a)))
        rfl rfl rfl nd rfl G.le rfl G.lf (by decide) ⟨G.ls, by decide, .inl G.mgs⟩ (by decide) (by decide) (fun W pn xe tk _ => ?_) I2 ?_) fun fl s3 hs3 => ?_)
      · refine ⟨fun pins3 s3 σ3 H3 D3 I3 h3 => ?_⟩
        obtain ⟨Ech, hW, h1, h2, h3⟩ := h3
        have hp := pe_act (i := 0) (p1 := p4) (p2 := p5) (CXg := C8.CX0) (Eg := C8.E0) (tb := t Ech) (E := Ech) I1 L hf hfn hfr (hbind _ _ _ _ _) tk hW hr' (fun A outer s H hr2 => hbody A outer s H Ech f c' hr2) rfl (.inl G.la) (by decide) (by decide)
        exact (pss_one (ps_expr (pos := p6) hp rfl)).run pins3 s3 σ3 H3 D3 I3 ⟨h1, h2, h3⟩
      · exact ⟨wCg X.K CS Q, fun cls d σ' H' ⟨e1, e2⟩ => ⟨e1, fun a na => ⟨⟨σ', rfl⟩, e2 a na⟩⟩, rfl, hco, by
          have e : (fun (_ : V) (H' : Hp) => (([some (.ref f), some .non, none] : L2.St) = [some (.ref f), some .non, none] ∧ Q .non H')) = fun _ H' => Q .non H' := by
            funext _ H'
            exact propext ⟨fun z => z.2, fun z => ⟨rfl, z⟩⟩
          exact e ▸ q⟩
      · obtain ⟨e, hs3⟩ := hs3
        subst e
        have pv1 : PE (cxOf C8.CX0 X.prog X.w X.K X.mg X.base ["action", "found", "error"] "_law_caught" (defScope st) g cdv X.A X.stack s' H2 C8.E0).nox (.Name "found" p13) (tVar 1) := pe_var (i := 1) rfl (.inl G.lf) (by decide) (by decide)
        have ret := pss_one (ps_ret (pos := p14) pv1)
        rcases hs3 with ⟨σ3, H3, I3, e, q3⟩ | ⟨a, oe, vs, cls, d, σ3, H3, hz, hd, new, I3, ⟨σ0, e⟩, q3⟩
        · subst e
          refine thn (ret.run [] s3 _ H3 { nx := fun _ _ => False, rt := fun v H => v = .non ∧ H = H3 } I3 ⟨.non, rfl, rfl, rfl⟩) fun fl s4 hs4 => ?_
          cases fl with
          | brk => obtain ⟨_, _, _, q⟩ := hs4; exact q.elim
          | cont => obtain ⟨_, _, _, q⟩ := hs4; exact q.elim
          | next => obtain ⟨_, _, _, q⟩ := hs4; exact q.elim
          | ret u =>
            obtain ⟨v, σ4, H4, I4, rv, e1, e2⟩ := hs4
            subst e1 e2
            exact ⟨u, rfl, fin I4 rv q3 I4.base I4.hok⟩
        · have l3 : σ3.length = 3 := I3.len
          have l0 : σ0.length = 3 := by rw [e, List.length_set, List.length_set, List.length_set] at l3; exact l3
          have g1 : σ3[1]? = some (some (.ref a)) := by
            rw [e, List.getElem?_set_ne (by decide), List.getElem?_set_self (by rw [List.length_set]; omega)]
          refine thn (ret.run [(a, oe)] s3 _ H3 { nx := fun _ _ => False, rt := fun v H => v = .ref a ∧ H = H3 } I3 ⟨.ref a, g1, rfl, rfl⟩) fun fl s4 hs4 => ?_
          cases fl with
          | brk => obtain ⟨_, _, _, q⟩ := hs4; exact q.elim
          | cont => obtain ⟨_, _, _, q⟩ := hs4; exact q.elim
          | next => obtain ⟨_, _, _, q⟩ := hs4; exact q.elim
          | ret u =>
            obtain ⟨v, σ4, H4, I4, rv, e1, e2⟩ := hs4
            subst e1 e2
            obtain ⟨ha, na, _, _, _⟩ := I4.pin (a, oe) (by show (a, oe) ∈ [] ++ [(a, oe)]; simp)
            have ub : Un (frs X.stack) [] H2 H4 s'.heap s4.heap := I4.base
            refine ⟨u, rfl, fin I4 rv q3 ⟨ub.keep, ub.slot, fun b o e n hx => ?_, ub.there, fun b xs e => ?_, fun b o v e => ?_, fun b ps e => ?_⟩ (I4.hok.laidN (fun _ _ z => z) na (excT_ok ha hz hd))⟩
            · have nb : b ≠ a := fun z => by rw [z] at e; rw [show s'.heap.get? a = none from new] at e; cases e
              rw [upd_ne nb]; exact ub.free b o e n hx
            · have z := ub.tups b xs e
              rw [upd_ne (ne_of_none z na)]; exact z
            · have z := ub.frzs b o v e
              rw [upd_ne (ne_of_none z na)]; exact z
            · obtain ⟨m, z⟩ := ub.tbls b ps e
              exact ⟨m, by rw [upd_ne (ne_of_none z na)]; exact z⟩
  refine wpAny_call (codeAny_mono rc fun r s2 hq => ?_)
  cases r with
  | error e => exact (show False from hq).elim
  | ok fl =>
    cases fl with
    | ret u => exact I1.after hq
    | next => exact False.elim hq
    | brk => exact False.elim hq
    | cont => exact False.elim hq
end
end Ev
/-! Ev25b: lambdas as values: made, kept, called by the def that catches. -/
namespace Ev
open PySem PySem.Spec PyProof.Rows L2 LamX
section
variable {X : Cx} {pins : List (Addr × Obj)} {σ : L2.St} {H : Hp} {s : Shared}
theorem pe_actF {CXg : CXT} {Eg : XK} {Ng : List Str} {qg : Str} {sg : Scope} {g f c' : Addr} {cdg pm ctv : Value} {params : Arguments} {body : Expr} {scope : Scope} {k i : Nat} {a : Str} {pn : List (Addr × Obj)} {xe : Value → Shared → Prop} {W : WX} {E : XK} {tb : TE} {p1 p2 : Pos}
    (I : Inv X pins σ H s) (L : LamS X.env.scope scope) {uf : HO} (hfz : H f = some (.frz (PySem.W.kla_obj "<lambda>" (X.env.qual ++ "<lambda>") params body scope (cloFrom X.env.cells scope.names []) pm c' ctv) uf))
    (hbind : bindArgs (PySem.W.kla_fn "<lambda>" (X.env.qual ++ "<lambda>") params body scope (cloFrom X.env.cells scope.names []) pm (.ref c') ctv) ⟨[], []⟩ = pure [])
    (tk : Takes ((cxOf CXg X.prog X.w X.K X.mg X.base Ng qg sg g cdg X.A X.stack s H Eg).tr pn xe) W) (hW : ∀ cls d σ' H', E cls d H' → W cls d σ' H') (hr : Room (k + 1) (X.A.deeper (envOfC qg sg s.heap.objs.size g cdg)))
    (hbody : ∀ (A : Around) (outer : List PySem.Env) (s : Shared) (H : Hp), Room k (A.deeper (lamEnv X scope s.heap.objs.size f c')) → PE (lamCx X A outer s H E scope f c') body tb)
    (hN : Ng[i]? = some a) (hv : Vis sg a) (hd : (a == ("__debug__" : Str)) = false := by decide) (hcd : (a == ("__classdict__" : Str)) = false := by decide) :
    PE ((cxOf CXg X.prog X.w X.K X.mg X.base Ng qg sg g cdg X.A X.stack s H Eg).tr pn xe) (.Call (.Name a p1) [] [] p2)
      (fun σZ HZ Q => σZ[i]? = some (some (.ref f)) ∧ HZ c' = some (CodeO c' (X.env.qual ++ "<lambda>")) ∧ tb σ HZ Q) := by
  refine ⟨fun pinsZ sZ σZ HZ Q IZ h => ?_⟩
  obtain ⟨hs, hc, ht⟩ := h
  refine wpAny_Call_Name_kw (thn ((pe_var (pos := p1) (i := i) hN hv hd hcd).run pinsZ sZ σZ HZ (fun v H1 => v = .ref f ∧ H1 = HZ) IZ ⟨.ref f, hs, rfl, rfl⟩) fun u s1 ⟨v, H1, I1, r1, q1⟩ => ?_)
  obtain ⟨ev, eH⟩ := q1
  subst ev
  rw [eH] at I1
  obtain rfl : u = Value.ref f := r1
  have of1 : s1.heap.get? f = some (PySem.W.kla_obj "<lambda>" (X.env.qual ++ "<lambda>") params body scope (cloFrom X.env.cells scope.names []) pm c' ctv) := (show ObjOk X.prog X.w HZ s1.heap f (.frz _ uf) from I1.hok f _ (I1.base.frzs f _ uf hfz)).1
  refine PySem.W.callWith_F0 ⟨_, _, _, _, of1⟩ ?_
  have un : Un (frs X.stack) [] H HZ s.heap s1.heap := I1.base
  obtain ⟨⟨oc, vs, t, hoc, hdc, hvc⟩, _, _⟩ := I1.hok c' _ hc
  have rc : codeAny (model X.prog X.w) (X.A.deeper (envOfC qg sg s.heap.objs.size g cdg)) (.call (.ref f) ⟨[], []⟩) (CR (L2.CX X.prog X.w) (envOfC qg sg s.heap.objs.size g cdg :: X.stack) X.prog X.w HZ s1 Q E) s1 := by
    refine PySem.W.kla_callFunE hr.depth of1 rfl L.co L.gen rfl ⟨c', oc, vs, t, rfl, hoc, hdc, hvc⟩ ?_
    rw [hbind]
    refine wpAny_pure (wpAny_newFunctionEnv (fun y hy => (L.own y hy).2) (fun y hy => absurd hy (by simp)) (fun h₁ hns hsb => ⟨I1.nolimit.fresh _ hsb, ?_⟩) L.kind)
    show codeAny _ _ (.expr body (lamEnv X scope s1.heap.objs.size f c')) _ _
    have kp : ∀ b o, s1.heap.get? b = some o → h₁.get? b = some o := fun b o e => hsb.extBut b o (Nat.ne_of_lt (Heap.lt_size e)) (Heap.get?_push_of_some _ e)
    have J : Inv (lamCx X (X.A.deeper (envOfC qg sg s.heap.objs.size g cdg)) (envOfC qg sg s.heap.objs.size g cdg :: X.stack) s1 HZ E scope f c') [] σ HZ { s1 with heap := h₁, toks := s1.toks + ([] : List (Str × Value)).length } :=
      lam_start2 I L I1.env0 hr.hd un hns kp
    refine PySem.W.kla_codeExpr (wpAny_mono ((hbody _ _ s1 HZ (hr.deeper _)).run [] _ _ HZ Q J ht) (fun v s' hq => ?_) fun e s' hq => hq)
    obtain ⟨w', H', J', rv, q⟩ := hq
    exact ⟨w', H', J'.os, J'.bare, J'.base, J'.hok, rv, q⟩
  have hx : Passes (L2.CX X.prog X.w) ((cxOf CXg X.prog X.w X.K X.mg X.base Ng qg sg g cdg X.A X.stack s H Eg).tr pn xe) E := passes_call tk hW
  refine wpAny_call (codeAny_mono rc fun r s' hq => ?_)
  cases r with
  | error e => exact hx pinsZ σZ HZ s1 e s' I1 hq
  | ok fl =>
    cases fl with
    | ret u => exact I1.after hq
    | next => exact False.elim hq
    | brk => exact False.elim hq
    | cont => exact False.elim hq
/-- the def that catches is called with a lambda of this frame -/
theorem cg_tail {g f c' CS : Addr} {k : Nat} {st : Stmt} {fd : FuncData} {params : Arguments} {body : Expr} {scope : Scope} {t : XK → TE} {pm ctv : Value} {uf : HO} {Q : VK} {H1 : Hp} {s' : Shared} (I1 : Inv X pins σ H1 s') (G : CgDef X.K X.mg CS st g fd)
    (hr : Room (k + 2) X.A) (L : LamS X.env.scope scope) (hfz : H1 f = some (.frz (PySem.W.kla_obj "<lambda>" (X.env.qual ++ "<lambda>") params body scope (cloFrom X.env.cells scope.names []) pm c' ctv) uf)) (hco : H1 c' = some (CodeO c' (X.env.qual ++ "<lambda>")))
    (hbind : bindArgs (PySem.W.kla_fn "<lambda>" (X.env.qual ++ "<lambda>") params body scope (cloFrom X.env.cells scope.names []) pm (.ref c') ctv) ⟨[], []⟩ = pure [])
    (hbody : ∀ (A : Around) (outer : List PySem.Env) (s : Shared) (H : Hp) (E : XK), Room k (A.deeper (lamEnv X scope s.heap.objs.size f c')) → PE (lamCx X A outer s H E scope f c') body (t E))
    (q : t (wCg X.K CS Q) σ H1 fun _ H' => Q .non H') : wpAny (model X.prog X.w) X.A (call (.ref g) [.ref f]) (EP X pins σ Q) X.xe s' := by
  obtain ⟨oc, od, kV, doc, pm0, an, cdv, ct, osl, efd, lk, hcd⟩ := G.fn.ex
  have e0 := I1.env0
  have KX : X.K.In s'.heap := I1.kIn
  have lim : s'.heap.NoLimit := e0.mod.nolimit.keeps fun b o e => (e0.bs b o e).1
  have hkind : ∀ y ∈ (["action"] : List Str).zip [Value.ref f], (defScope st).names.lookup y.1 = some .local ∨ ((defScope st).names.lookup y.1 = some .cell ∧ ((cellsFrom (s'.heap.objs.size + 1) (defScope st).names []).lookup y.1).isSome = true) := fun ⟨n, v⟩ hy => by
    have e : n = "action" := by simpa using (List.of_mem_zip hy).1
    subst e
    exact .inl G.la
  have rc : codeAny (model X.prog X.w) X.A (.call (.ref g) ⟨[.ref f], []⟩) (CR C8.CX0 X.stack X.prog X.w H1 s' Q C8.E0) s' := by
    have hbd := G.binds s' [.ref f] KX rfl
    rw [efd] at hbd lk
    refine codeAny_call_function hr.depth (KX _ _ lk) rfl G.sc.co G.sc.gen rfl (PySem.W.codeRec_of KX hcd) (hbd _ _ _ _ ?_)
    refine wpAny_newFunctionEnv_cells G.sc.kind hkind fun env he s1 x => ?_
    subst he
    refine ⟨lim.keeps x.toInCall.keep, codeAny_func ?_⟩
    have hr' := hr.deeper (envOfC "_law_caught" (defScope st) s'.heap.objs.size g cdv)
    have I0 : Inv (cxOf C8.CX0 X.prog X.w X.K X.mg X.base ["action", "found", "error"] "_law_caught" (defScope st) g cdv X.A X.stack s' H1 C8.E0) [] (L2.start ["action", "found", "error"] [.ref f]) H1 s1 := inv_start G.sc hr.hd e0 rfl (.cons rfl .nil) x
    obtain ⟨j, p1, p2, p3, p4, p5, p6, p7, p8, p9, p10, p11, p12, p13, p14, eb⟩ := G.body
    rw [eb]
    have nd : (["action", "found", "error"] : List Str).Nodup := by decide
    have fin : ∀ {pins' : List (Addr × Obj)} {σ' : L2.St} {H' H'' : Hp} {s2 : Shared} {v : V} {u : Value}, Inv (cxOf C8.CX0 X.prog X.w X.K X.mg X.base ["action", "found", "error"] "_law_caught" (defScope st) g cdv X.A X.stack s' H1 C8.E0).nox pins' σ' H' s2 → RelV v u → Q v H'' →
        Un (frs X.stack) [] H1 H'' s'.heap s2.heap → HOk X.prog X.w H'' s2.heap → CE X.stack X.prog X.w H1 s' Q u s2 := fun J rv q u hok => ⟨_, _, J.os, J.bare, u, hok, rv, q⟩
    refine wpAny_mono (E := fun _ _ => False) (Q := fun fl s2 => ∃ u, fl = .ret u ∧ CE X.stack X.prog X.w H1 s' Q u s2) ?_ (fun fl s2 ⟨u, e, z⟩ => by subst e; exact z) fun _ _ z => z.elim
    have I0 := I0.wish (fun _ _ => False)
    have s1s := ps_set (X := (cxOf C8.CX0 X.prog X.w X.K X.mg X.base ["action", "found", "error"] "_law_caught" (defScope st) g cdv X.A X.stack s' H1 C8.E0).nox) (i := 1) (x := "found") (pos' := p1) (pos := p3) nd rfl (.inl G.lf) (pe_non (j := j) (pos := p2)) rfl (.inl rfl)
    refine wpAny_execs_cons (thn (s1s.run [] s1 _ H1 { nx := fun σ2 H2 => σ2 = [some (.ref f), some .non, none] ∧ H2 = H1, rt := fun _ _ => False } I0 ⟨rfl, rfl⟩) fun fl s2 hs2 => ?_)
    cases fl with
    | brk => obtain ⟨_, _, _, q⟩ := hs2; exact q.elim
    | cont => obtain ⟨_, _, _, q⟩ := hs2; exact q.elim
    | ret u => obtain ⟨_, _, _, _, _, q⟩ := hs2; exact q.elim
    | next =>
      obtain ⟨σ2, H2, I2, e1, e2⟩ := hs2
      subst e1 e2
      refine wpAny_execs_cons (thn (try_pin (X := (cxOf C8.CX0 X.prog X.w X.K X.mg X.base ["action", "found", "error"] "_law_caught" (defScope st) g cdv X.A X.stack s' H2 C8.E0).nox) (i := 2) (j := 1) (c := .ref CS)
        (tb := fun W D σZ HZ => ∃ Ech : XK, (∀ cls d σ' H', Ech cls d H' → W cls d σ' H') ∧ σZ[0]? = some (some (.ref f)) ∧ HZ c' = some (CodeO c' (X.env.qual ++ "<lambda>")) ∧ t Ech σ HZ fun _ H' => D.nx σZ H')
        (Qn := fun σ3 H3 => σ3 = [some (.ref f), some .non, none] ∧ Q .non H3) (Qx := fun a cls d σ3 H3 => (∃ σ0 : L2.St, σ3 = ((σ0.set 2 (some (.ref a))).set 1 (some (.ref a))).set 2 none) ∧ Q (.ref a) (upd H3 a (ExcT cls d a)))
        rfl rfl rfl nd rfl G.le rfl G.lf (by decide) ⟨G.ls, by decide, .inl G.mgs⟩ (by decide) (by decide) (fun W pn xe tk _ => ?_) I2 ?_) fun fl s3 hs3 => ?_)
      · refine ⟨fun pins3 s3 σ3 H3 D3 I3 h3 => ?_⟩
        obtain ⟨Ech, hW, h1, h2, h3⟩ := h3
        have hp := pe_actF (i := 0) (p1 := p4) (p2 := p5) (CXg := C8.CX0) (Eg := C8.E0) (tb := t Ech) (E := Ech) I1 L hfz hbind tk hW hr' (fun A outer s H hr2 => hbody A outer s H Ech hr2) rfl (.inl G.la) (by decide) (by decide)
        exact (pss_one (ps_expr (pos := p6) hp rfl)).run pins3 s3 σ3 H3 D3 I3 ⟨h1, h2, h3⟩
      · exact ⟨wCg X.K CS Q, fun cls d σ' H' ⟨e1, e2⟩ => ⟨e1, fun a na => ⟨⟨σ', rfl⟩, e2 a na⟩⟩, rfl, hco, by
          have e : (fun (_ : V) (H' : Hp) => (([some (.ref f), some .non, none] : L2.St) = [some (.ref f), some .non, none] ∧ Q .non H')) = fun _ H' => Q .non H' := by
            funext _ H'
            exact propext ⟨fun z => z.2, fun z => ⟨rfl, z⟩⟩
          exact e ▸ q⟩
      · obtain ⟨e, hs3⟩ := hs3
        subst e
        have pv1 : PE (cxOf C8.CX0 X.prog X.w X.K X.mg X.base ["action", "found", "error"] "_law_caught" (defScope st) g cdv X.A X.stack s' H2 C8.E0).nox (.Name "found" p13) (tVar 1) := pe_var (i := 1) rfl (.inl G.lf) (by decide) (by decide)
        have ret := pss_one (ps_ret (pos := p14) pv1)
        rcases hs3 with ⟨σ3, H3, I3, e, q3⟩ | ⟨a, oe, vs, cls, d, σ3, H3, hz, hd, new, I3, ⟨σ0, e⟩, q3⟩
        · subst e
          refine thn (ret.run [] s3 _ H3 { nx := fun _ _ => False, rt := fun v H => v = .non ∧ H = H3 } I3 ⟨.non, rfl, rfl, rfl⟩) fun fl s4 hs4 => ?_
          cases fl with
          | brk => obtain ⟨_, _, _, q⟩ := hs4; exact q.elim
          | cont => obtain ⟨_, _, _, q⟩ := hs4; exact q.elim
          | next => obtain ⟨_, _, _, q⟩ := hs4; exact q.elim
          | ret u =>
            obtain ⟨v, σ4, H4, I4, rv, e1, e2⟩ := hs4
            subst e1 e2
            exact ⟨u, rfl, fin I4 rv q3 I4.base I4.hok⟩
        · have l3 : σ3.length = 3 := I3.len
          have l0 : σ0.length = 3 := by rw [e, List.length_set, List.length_set, List.length_set] at l3; exact l3
          have g1 : σ3[1]? = some (some (.ref a)) := by
            rw [e, List.getElem?_set_ne (by decide), List.getElem?_set_self (by rw [List.length_set]; omega)]
          refine thn (ret.run [(a, oe)] s3 _ H3 { nx := fun _ _ => False, rt := fun v H => v = .ref a ∧ H = H3 } I3 ⟨.ref a, g1, rfl, rfl⟩) fun fl s4 hs4 => ?_
          cases fl with
          | brk => obtain ⟨_, _, _, q⟩ := hs4; exact q.elim
          | cont => obtain ⟨_, _, _, q⟩ := hs4; exact q.elim
          | next => obtain ⟨_, _, _, q⟩ := hs4; exact q.elim
          | ret u =>
            obtain ⟨v, σ4, H4, I4, rv, e1, e2⟩ := hs4
            subst e1 e2
            obtain ⟨ha, na, _, _, _⟩ := I4.pin (a, oe) (by show (a, oe) ∈ [] ++ [(a, oe)]; simp)
            have ub : Un (frs X.stack) [] H2 H4 s'.heap s4.heap := I4.base
            refine ⟨u, rfl, fin I4 rv q3 ⟨ub.keep, ub.slot, fun b o e n hx => ?_, ub.there, fun b xs e => ?_, fun b o v e => ?_, fun b ps e => ?_⟩ (I4.hok.laidN (fun _ _ z => z) na (excT_ok ha hz hd))⟩
            · have nb : b ≠ a := fun z => by rw [z] at e; rw [show s'.heap.get? a = none from new] at e; cases e
              rw [upd_ne nb]; exact ub.free b o e n hx
            · have z := ub.tups b xs e
              rw [upd_ne (ne_of_none z na)]; exact z
            · have z := ub.frzs b o v e
              rw [upd_ne (ne_of_none z na)]; exact z
            · obtain ⟨m, z⟩ := ub.tbls b ps e
              exact ⟨m, by rw [upd_ne (ne_of_none z na)]; exact z⟩
  refine wpAny_call (codeAny_mono rc fun r s2 hq => ?_)
  cases r with
  | error e => exact (show False from hq).elim
  | ok fl =>
    cases fl with
    | ret u => exact I1.after hq
    | next => exact False.elim hq
    | brk => exact False.elim hq
    | cont => exact False.elim hq
/-- x(y), y a slot that holds a lambda of this frame -/
def tCgv (X : Cx) (CS : Addr) (k i : Nat) : TE := fun σ H Q => ∃ (f c' : Addr) (params : Arguments) (body : Expr) (scope : Scope) (pm ctv : Value) (uf : HO) (t : XK → TE), σ[i]? = some (some (.ref f)) ∧ LamS X.env.scope scope ∧
  H f = some (.frz (PySem.W.kla_obj "<lambda>" (X.env.qual ++ "<lambda>") params body scope (cloFrom X.env.cells scope.names []) pm c' ctv) uf) ∧ H c' = some (CodeO c' (X.env.qual ++ "<lambda>")) ∧
  bindArgs (PySem.W.kla_fn "<lambda>" (X.env.qual ++ "<lambda>") params body scope (cloFrom X.env.cells scope.names []) pm (.ref c') ctv) ⟨[], []⟩ = pure [] ∧
  (∀ (A : Around) (outer : List PySem.Env) (s : Shared) (H : Hp) (E : XK), Room k (A.deeper (lamEnv X scope s.heap.objs.size f c')) → PE (lamCx X A outer s H E scope f c') body (t E)) ∧ t (wCg X.K CS Q) σ H fun _ H' => Q .non H'
theorem pe_cgv {g CS : Addr} {k i : Nat} {st : Stmt} {fd : FuncData} {y : Str} {p p2 pos : Pos} (G : CgDef X.K X.mg CS st g fd) (hg : Gl X "_law_caught") (hr : Room (k + 2) X.A) (hN : X.N[i]? = some y) (hv : Vis X.env.scope y) (hd : (y == ("__debug__" : Str)) = false) (hcd : (y == ("__classdict__" : Str)) = false) :
    PE X (.Call (.Name "_law_caught" p) [.Name y p2] [] pos) (tCgv X CS k i) := by
  refine ⟨fun pins s σ H Q I h => ?_⟩
  obtain ⟨f, c', params, body, scope, pm, ctv, uf, t, h1, L, h2, h3, h4, h5, h6⟩ := h
  refine wpAny_Call_Name_kw (ld_glob I hg G.mgg ?_ (by decide))
  refine PySem.W.callWith_K (h₀ := X.base) I.ok.mod.kin G.fn.kp ?_ (by rfl) (by rfl)
  show wpAny _ _ (spliced ((false, eval (.Name y p2) X.env) :: backTo pos (starEach [] X.env))) _ _ s
  refine Calls.spliced_cons (thn ((pe_var (pos := p2) hN hv hd hcd).run pins s σ H (fun v H1 => v = .ref f ∧ H1 = H) I ⟨.ref f, h1, rfl, rfl⟩) fun u s1 ⟨v, H1, I1, r1, e1, e2⟩ => ?_)
  subst e1 e2
  obtain rfl : u = Value.ref f := r1
  exact Calls.spliced_nil ⟨I1.kIn, cg_tail I1 G hr L h2 h3 h4 h5 h6⟩
/-- an object that is new since the entry, and known to nobody, is told from now on -/
theorem inv_tell {f : Addr} {o : Obj} {u : HO} {s' : Shared} {H1 : Hp} (I : Inv X pins σ H s) (I1 : Inv X pins σ H1 s') (hs : s.heap.objs.size ≤ f) (hf : s'.heap.get? f = some o) (hn : H1 f = none) (hu : ∀ H2, ObjOk X.prog X.w H2 s'.heap f (.frz o u)) : Inv X pins σ (upd H1 f (.frz o u)) s' := by
  have old : ∀ b o', s.heap.get? b = some o' → b ≠ f := fun b o' e z => by
    rw [z] at e
    exact Nat.lt_irrefl _ (Nat.lt_of_lt_of_le (Heap.lt_size e) hs)
  have old0 : ∀ b o', X.s_0.heap.get? b = some o' → b ≠ f := fun b o' e z => by
    rw [z] at e
    exact Nat.lt_irrefl _ (Nat.lt_of_lt_of_le (Heap.lt_size e) (Nat.le_trans I.sz hs))
  refine ⟨I1.ok, I1.os, I1.bare, ⟨I1.base.keep, I1.base.slot, fun b o' e n hx => ?_, I1.base.there, fun b xs e => ?_, fun b o' v e => ?_, fun b ps e => ?_⟩, I1.loc, I1.cell, ?_, fun y c e => ?_, fun p hp => ?_, I1.hok.laidN (fun _ _ z => z) hn (hu _), I1.len⟩
  · rw [upd_ne (old0 b o' e)]; exact I1.base.free b o' e n hx
  · have z := I1.base.tups b xs e
    rw [upd_ne (ne_of_none z hn)]; exact z
  · have z := I1.base.frzs b o' v e
    rw [upd_ne (ne_of_none z hn)]; exact z
  · obtain ⟨m, z⟩ := I1.base.tbls b ps e
    exact ⟨m, by rw [upd_ne (ne_of_none z hn)]; exact z⟩
  · have l : X.env.locals ≠ f := fun z => by
      have h1 := I.lt
      rw [z] at h1
      exact Nat.lt_irrefl _ (Nat.lt_of_lt_of_le h1 hs)
    rw [upd_ne l]; exact I1.free
  · obtain ⟨v, o', ho, _⟩ := I.cell y c e
    rw [upd_ne (old c o' ho)]; exact I1.freeC y c e
  · obtain ⟨a1, a2, a3, a4, a5⟩ := I1.pin p hp
    obtain ⟨b1, _⟩ := I.pin p hp
    exact ⟨a1, by rw [upd_ne (old p.1 _ b1)]; exact a2, a3, a4, a5⟩
/-- what a lambda's object is -/
abbrev lamObj (cells : List (Str × Addr)) (q : Str) (body : Expr) (scope : Scope) (pm : Value) (c' : Addr) (ctv : Value) : Obj := PySem.W.kla_obj "<lambda>" q ⟨[], [], none, [], [], none, []⟩ body scope (cloFrom cells scope.names []) pm c' ctv
abbrev lamU : HO := .ext fun _ => True
def tMkLam (X : Cx) (T : List (Addr × Str)) (P : Addr) (body : Expr) (scope : Scope) : TE := fun _ H Q => Tabs T H ∧ ∀ (f c' : Addr) (pm ctv : Value) (H1 : Hp), (H1 = H ∨ ∃ ps, H c' = none ∧ H1 = upd (upd H P (.tbl ps)) c' (CodeO c' (X.env.qual ++ "<lambda>"))) → Tabs T H1 →
  H1 f = none → H1 c' = some (CodeO c' (X.env.qual ++ "<lambda>")) → Q (.ref f) (upd H1 f (.frz (lamObj X.env.cells (X.env.qual ++ "<lambda>") body scope pm c' ctv) lamU))
theorem pe_mklam {T : List (Addr × Str)} {c P : Addr} {body : Expr} {scope : Scope} {pos : Pos} (TB : TabB X.base X.mg c P) (hcode : X.env.code = .ref c) (hmT : (P, X.env.qual ++ "<lambda>") ∈ T) (hu : ∀ p ∈ T, p.1 = P → p.2 = X.env.qual ++ "<lambda>") (L : LamS X.env.scope scope) :
    PE X (.Lambda ⟨[], [], none, [], [], none, []⟩ body scope pos) (tMkLam X T P body scope) := by
  refine ⟨fun pins s σ H Q I h => ?_⟩
  obtain ⟨hT, h⟩ := h
  refine lam_mk I TB hcode hmT hu hT rfl (L.has I.ok) fun f c' pm ctv H1 s' I1 eN T1 hf hfn hfr hco hsz => ?_
  exact ⟨.ref f, _, inv_tell (u := lamU) I I1 hsz hf hfn (fun H2 => show _ ∧ True ∧ (∃ o, s'.heap.get? f = some o) ∧ _ from ⟨hf, trivial, ⟨_, hf⟩, fun _ _ _ _ => trivial⟩), rfl, h f c' pm ctv H1 eN T1 hfn hco⟩
end
end Ev
/-! Ev16: the compact tree of an expression computes what the expression does. -/
namespace Ev
open PySem PySem.Spec PyProof.Rows L2

def permG {α : Type} (n m : Nat) (p : List Nat) (us ws : List α) : List α := if us.length = n ∧ ws.length = m then permL p (us ++ ws) else []
/-- a def that may be called -/
def FnAt (W : Wd) (T : TB) (X : Cx) (k : Nat) (x : Str) (call : List D → DS → Res D) : Prop :=
  ∃ (f : Addr) (fd : FuncData) (ps : List Str), X.mg x = some (.ref f) ∧ PySem.W.keepIn X.K (.ref f) = true ∧ FnOk X.prog X.w X.K X.mg X.base (L2.CX X.prog X.w) k f fd ps (spF W call) ∧ Binds X.K fd ps [] ∧
    ∀ p ∈ T.kfns, p.1 = x → KBinds X.K fd ps p.2.2.1 (permG p.2.1 p.2.2.1.length p.2.2.2) (permG p.2.1 p.2.2.1.length p.2.2.2)
/-- what isinstance asks of a value, by the heap alone -/
def KitH (P : Program) (w : World) (K : PySem.W.Frag) (H : Hp) (x : V) (t : Value) : Prop := ∀ (h : Heap) (u : Value), K.In h → HOk P w H h → RelV x u → ∃ Z : Heap → Prop, PySem.W.KitX K u t Z ∧ Z h ∧ u ≠ .builtin "__main__.__loader__#opaque"
/-- an error, by its class and dict alone -/
def ExcRep (W : Wd) (F : Hp) (v : V) (c : Str) : Prop := ∃ (a : Addr) (cls : Value) (dx : Option Addr), v = .ref a ∧ W.exA c cls ∧ F a = some (ExcT cls dx a) ∧ ∀ d, dx = some d → ∃ f u, F d = some (.xd [(f, u)])
theorem Rep.excRep {W : Wd} {F : Hp} {v : V} {c : Str} {fs : List D} (r : Rep W F v (.exc c fs)) : ExcRep W F v c := by
  cases r with
  | exc0 h e => exact ⟨_, _, none, rfl, h, e, fun d z => nomatch z⟩
  | exc1 h e e2 _ _ => exact ⟨_, _, some _, rfl, h, e, fun d z => by cases z; exact ⟨_, _, e2⟩⟩
/-- isinstance of an error, by a class -/
def IscAt (W : Wd) (X : Cx) (GG : G) (x : Str) : Prop := ∃ C : Addr, X.mg x = some (.ref C) ∧ ∀ c v H F, LeK F H → ExcRep W F v c → ∃ t, KitH X.prog X.w X.K H v t ∧ PySem.W.kitOne X.K t (.ref C) = some ((GG.sub c).contains x)
/-- what a lambda of this frame represents -/
def CloDef (T : TB) (sc : Scope) (cells : List (Str × Addr)) (q : Str) (o : Obj) (t : E) (caps : List Nat) : Prop := ∃ (bd : Expr) (scope : Scope) (pm ctv : Value) (c' : Addr) (m : Nat), o = lamObj cells q bd scope pm c' ctv ∧ LamX.lamSB sc scope = true ∧ t = trE T.noLam m scope false bd ∧ caps = capsOf T.N scope
/-- without lambdas that are called -/
def G.nl (g : G) : G := { g with lam := fun _ _ _ => .stuck }
def bltNames : List Str := ["len", "abs", "int", "all", "any", "sum", "tuple", "list", "sorted", "isinstance", "min", "max", "range", "zip", "enumerate", "bool", "str", "dict"]
/-- the context of a body -/
structure CtxE (W : Wd) (T : TB) (Gv : G) (k : Nat) (X : Cx) (g : Gh) (sc : Scope) : Prop where
  hN : X.N = T.N
  nd : T.N.Nodup
  hsc : X.env.scope = sc
  kind : sc.kind = .function
  hK : X.K = W.K
  calm : X.calm = true
  room : Room k X.A
  blt : ∀ x ∈ bltNames, X.mg x = none
  gcd : T.gcd = true → X.mg "gcd" = some (.builtin "math.gcd")
  fns : ∀ x, T.fns.contains x = true → FnAt W T X k x (Gv.call x)
  kfns : ∀ p ∈ T.kfns, FnAt W T X k p.1 (Gv.call p.1)
  consts : ∀ x, T.consts.contains x = true → ∀ d, Gv.glob x = some d → ∃ v u, X.mg x = some u ∧ RelV v u ∧ ∀ F, Rep W F v d
  lamI : T.lam = true → Room (k + 2) X.A ∧ ∃ (c P g CS : Addr) (st : Stmt) (fd : FuncData), X.env.code = .ref c ∧ LamX.TabB X.base X.mg c P ∧ (P, X.env.qual ++ "<lambda>") ∈ W.tabs ∧ (∀ p ∈ W.tabs, p.1 = P → p.2 = X.env.qual ++ "<lambda>") ∧
    CgDef X.K X.mg CS st g fd ∧ ∀ c cls, W.exA c cls → PySem.W.exmOne X.K cls (.ref CS) = some true
  isc : ∀ x, (T.excs.contains x || T.fexcs.contains x) = true → IscAt W X Gv x
  pass : Passes (L2.CX X.prog X.w) X g.E0
  fld : ∀ c cls f, W.exA c cls → W.exF c f → ∃ C : Addr, cls = .ref C ∧ XfC X.K C ∧ PySem.W.findIn X.K (.ref C) f = some none ∧ Gv.fields c = [f]
  cloI : T.lam = true → T.clo = true → (∀ o t caps, W.cloA o t caps ↔ CloDef T sc X.env.cells (X.env.qual ++ "<lambda>") o t caps) ∧ Gv.lam = fun t env st => evE Gv.nl t env st

section
variable {W : Wd} {T : TB} {Gv : G} {k : Nat} {X : Cx} {g : Gh} {sc : Scope}
theorem CtxE.gl (C : CtxE W T Gv k X g sc) {x : Str} (h : glB sc x = true) : Gl X x := by
  have h : sc.names.lookup x = some .globalImplicit := of_decide_eq_true h
  unfold Gl Env.kindOf
  rw [C.hsc]; exact h
theorem CtxE.vis (C : CtxE W T Gv k X g sc) {x : Str} (h : visB sc x = true) : Vis X.env.scope x := by
  unfold visB at h
  unfold Vis
  rw [C.hsc]
  split at h <;> first | exact .inl (by assumption) | exact .inr (.inl (by assumption)) | exact .inr (.inr (by assumption)) | cases h
theorem CtxE.loc (C : CtxE W T Gv k X g sc) {x : Str} (h : locB sc x = true) : L2.Loc X.env.scope x := by
  unfold locB at h
  unfold L2.Loc
  rw [C.hsc]
  split at h <;> first | exact .inl (by assumption) | exact .inr (by assumption) | cases h
theorem ixOf_some {N : List Str} {x : Str} {i : Nat} (h : ixOf N x = some i) : N[i]? = some x := by
  unfold ixOf at h
  obtain ⟨hl, h1, _⟩ := List.findIdx?_eq_some_iff_getElem.mp h
  rw [List.getElem?_eq_getElem hl, of_decide_eq_true h1]
theorem CtxE.ix (C : CtxE W T Gv k X g sc) {x : Str} {i : Nat} (h : ixOf T.N x = some i) : X.N[i]? = some x := by rw [C.hN]; exact ixOf_some h
theorem okN_d {x : Str} (h : okN x = true) : (x == ("__debug__" : Str)) = false ∧ (x == ("__classdict__" : Str)) = false ∧ x ≠ "__name__" := by
  unfold okN at h
  simp only [Bool.and_eq_true, Bool.not_eq_true', decide_eq_false_iff_not] at h
  exact ⟨h.1.1, h.1.2, h.2⟩
theorem CtxE.hu (C : CtxE W T Gv k X g sc) : X.A.units + 65 < cLine := by have := C.room.un; omega

/-- the block of a comprehension -/
theorem CtxE.blk (C : CtxE W T Gv k X g sc) {scope : Scope} (hk : scope.kind = .function) (g' : GB) (s : Shared) (H : Hp) (Ca : Addr) (cl : List (Str × Addr)) (fp : List Addr) :
    CtxE W T.noLam Gv k (X.blk s H scope (compEnvC scope cl Ca X.env) fp) g'.1 (relS scope sc) where
  hN := C.hN
  nd := C.nd
  hsc := by show relS scope X.env.scope = _; rw [C.hsc]
  kind := hk
  hK := C.hK
  calm := C.calm
  room := C.room
  blt := C.blt
  gcd := C.gcd
  fns := C.fns
  kfns := C.kfns
  consts := C.consts
  lamI := fun z => nomatch (show false = true from z)
  isc := C.isc
  pass := by rw [g'.2]; exact passL
  fld := C.fld
  cloI := fun z => nomatch (show false = true from z)

/-! ### what soundness says -/
def Snd (W : Wd) (Gv : G) (X : Cx) (g : Gh) (b : Bool) (e : Expr) (t : E) : Prop :=
  ∀ Ω, (∀ i ∈ varsE t, Ω i = false) → ∃ m, SE W X g Ω m e (evE Gv t) ∧ (m = .bor → b = true) ∧ (freshE t = true → m = .own)
theorem Snd.rep {b : Bool} {e : Expr} {t : E} (h : Snd W Gv X g b e t) (hb : b = false) {Ω : Nat → Bool} (o : ∀ i ∈ varsE t, Ω i = false) : SE W X g Ω .rep e (evE Gv t) := by
  obtain ⟨m, h1, h2, _⟩ := h Ω o
  cases m with
  | rep => exact h1
  | own => exact h1.rep
  | bor => rw [h2 rfl] at hb; cases hb
theorem Snd.bor {b : Bool} {e : Expr} {t : E} (h : Snd W Gv X g b e t) {Ω : Nat → Bool} (o : ∀ i ∈ varsE t, Ω i = false) : SE W X g Ω .bor e (evE Gv t) := by
  obtain ⟨m, h1, h2, _⟩ := h Ω o
  cases m with
  | rep => exact h1.bor
  | own => exact h1.rep.bor
  | bor => exact h1
theorem Snd.own {b : Bool} {e : Expr} {t : E} (h : Snd W Gv X g b e t) (f : freshE t = true) {Ω : Nat → Bool} (o : ∀ i ∈ varsE t, Ω i = false) : SE W X g Ω .own e (evE Gv t) := by
  obtain ⟨m, h1, _, h3⟩ := h Ω o
  rw [h3 f] at h1
  exact h1
theorem Snd.bad {b : Bool} {e : Expr} : Snd W Gv X g b e .bad := fun Ω _ => ⟨.rep, SE.stuck, (fun z => nomatch z), (fun z => nomatch z)⟩
theorem Snd.of_rep {b : Bool} {e : Expr} {t : E} (h : ∀ Ω, (∀ i ∈ varsE t, Ω i = false) → SE W X g Ω .rep e (evE Gv t)) (f : freshE t = false) : Snd W Gv X g b e t := fun Ω o => ⟨.rep, h Ω o, (fun z => nomatch z), fun z => by rw [f] at z; cases z⟩
theorem Snd.of_own {b : Bool} {e : Expr} {t : E} (h : ∀ Ω, (∀ i ∈ varsE t, Ω i = false) → SE W X g Ω .own e (evE Gv t)) : Snd W Gv X g b e t := fun Ω o => ⟨.own, h Ω o, (fun z => nomatch z), fun _ => rfl⟩
abbrev SndR (W : Wd) (Gv : G) (X : Cx) (g : Gh) (r : RE) : Prop := ∀ b e, Snd W Gv X g b e (r b e)
theorem in_l {a b : List Nat} {Ω : Nat → Bool} (o : ∀ i ∈ a ++ b, Ω i = false) : ∀ i ∈ a, Ω i = false := fun i h => o i (List.mem_append_left _ h)
theorem in_r {a b : List Nat} {Ω : Nat → Bool} (o : ∀ i ∈ a ++ b, Ω i = false) : ∀ i ∈ b, Ω i = false := fun i h => o i (List.mem_append_right _ h)

/-! ### constants, names -/
theorem snd_c {b : Bool} {c : Const} {j : Nat} {pos : Pos} : Snd W Gv X g b (.Constant c j pos) (trC c) := by
  cases c with
  | none => exact .of_rep (fun Ω _ => se_c pe_non fun F => .non) rfl
  | bool x => exact .of_rep (fun Ω _ => se_c pe_bl fun F => .bl x) rfl
  | int i => exact .of_rep (fun Ω _ => se_c pe_int fun F => .int i) rfl
  | str x => exact .of_rep (fun Ω _ => se_c pe_str fun F => .str x) rfl
  | _ => exact Snd.bad
theorem snd_n (C : CtxE W T Gv k X g sc) {b : Bool} {x : Str} {pos : Pos} : Snd W Gv X g b (.Name x pos) (trN T b sc x) := by
  unfold trN
  split
  case isFalse => exact Snd.bad
  rename_i hok
  obtain ⟨hd, hcd, _⟩ := okN_d hok
  split
  · rename_i i hi
    split
    case isFalse => exact Snd.bad
    rename_i hv
    have h := pe_var (pos := pos) (C.ix hi) (C.vis hv) hd hcd
    cases b with
    | true => exact fun Ω _ => ⟨.bor, se_bor h, fun _ => rfl, fun z => nomatch z⟩
    | false => exact .of_rep (fun Ω o => se_var h (o i (List.mem_singleton.mpr rfl))) rfl
  · split
    case isFalse => exact Snd.bad
    rename_i h
    rw [Bool.and_eq_true] at h
    refine .of_rep (fun Ω _ => ?_) rfl
    show SE W X g Ω .rep _ fun _ st => ofO (Gv.glob x) st
    cases q : Gv.glob x with
    | none => exact SE.stuck
    | some d =>
      obtain ⟨v, u, h1, h2, h3⟩ := C.consts x h.2 d q
      exact se_c (pe_glob (C.gl h.1) h1 h2 hd) h3

/-! ### lists of expressions -/
theorem star_of {a : Expr} (h : notStar a = true) (es : List Expr) (env : PySem.Env) : starEach (a :: es) env = (false, eval a env) :: starEach es env := by
  cases a <;> first | rfl | cases h
theorem sa_of {r : RE} (hr : SndR W Gv X g r) (hs : ∀ p q, r false (.Starred p q) = .bad) : ∀ (es : List Expr) (Ω : Nat → Bool), (∀ i ∈ varsEs (toEs (es.map (r false))), Ω i = false) → SA W X g Ω es (evEs Gv (toEs (es.map (r false))))
  | [], Ω, _ => sa_nil
  | a :: es, Ω, o => by
    by_cases h : notStar a = true
    · exact sa_cons ((hr false a).rep rfl (in_l o)) (sa_of hr hs es Ω (in_r o)) (star_of h es X.env)
    · cases a with
      | Starred p q =>
        refine SA.congr SA.stuck ?_
        funext env st
        show (evE Gv (r false (.Starred p q)) env st).bind _ = _
        rw [hs]
        rfl
      | _ => exact absurd rfl h
theorem evEs_len : ∀ (ts : List E) (env : Env) (st : DS) (ds : List D) (st' : DS), evEs Gv (toEs ts) env st = .ok ds st' → ds.length = ts.length
  | [], env, st, ds, st', h => by cases h; rfl
  | t :: ts, env, st, ds, st', h => by
    change (evE Gv t env st).bind _ = _ at h
    cases q : evE Gv t env st with
    | ok d st1 =>
      rw [q] at h
      change (evEs Gv (toEs ts) env st1).bind _ = _ at h
      cases q2 : evEs Gv (toEs ts) env st1 with
      | ok ds1 st2 =>
        rw [q2] at h
        cases h
        rw [List.length_cons, List.length_cons, evEs_len ts env st1 ds1 _ q2]
      | raise c fs st2 => rw [q2] at h; cases h
      | stuck => rw [q2] at h; cases h
    | raise c fs st1 => rw [q] at h; cases h
    | stuck => rw [q] at h; cases h
theorem snd_tup {r : RE} (hr : SndR W Gv X g r) (hs : ∀ p q, r false (.Starred p q) = .bad) {b : Bool} {es : List Expr} {j : Nat} {pos : Pos} : Snd W Gv X g b (.Tuple es j pos) (if es.length ≤ 1000 then .tup (toEs (es.map (r false))) else .bad) := by
  split
  · rename_i hl
    exact .of_rep (fun Ω o => se_tup (sa_of hr hs es Ω o) (by omega) fun env st ds st' h => by rw [evEs_len _ env st ds st' h, List.length_map]) rfl
  · exact Snd.bad
theorem snd_lst {r : RE} (hr : SndR W Gv X g r) (hs : ∀ p q, r false (.Starred p q) = .bad) {b : Bool} {es : List Expr} {pos : Pos} : Snd W Gv X g b (.List es pos) (if es.length ≤ 1000 then .lst (toEs (es.map (r false))) else .bad) := by
  split
  · rename_i hl
    exact .of_own (fun Ω o => se_lst (sa_of hr hs es Ω o) (by omega) fun env st ds st' h => by rw [evEs_len _ env st ds st' h, List.length_map])
  · exact Snd.bad

/-! ### operators -/
theorem snd_bin (C : CtxE W T Gv k X g sc) {r : RE} (hr : SndR W Gv X g r) {b : Bool} {o : Operator} {a c : Expr} {pos : Pos} : Snd W Gv X g b (.BinOp a o c pos) (trBin r o a c) := by
  unfold trBin
  have A := fun Ω o => (hr true a).bor (Ω := Ω) o
  have B := fun Ω o => (hr true c).bor (Ω := Ω) o
  cases o with
  | Add => exact .of_own fun Ω o => se_bin r_add (o_add C.hK) (A Ω (in_l o)) (B Ω (in_r o))
  | Sub => exact .of_own fun Ω o => se_bin r_sub o_sub (A Ω (in_l o)) (B Ω (in_r o))
  | Mult => exact .of_own fun Ω o => se_bin r_mul (o_mul C.hK) (A Ω (in_l o)) (B Ω (in_r o))
  | FloorDiv => exact .of_own fun Ω o => se_bin op_fdivX o_fdiv (A Ω (in_l o)) (B Ω (in_r o))
  | Mod => exact .of_own fun Ω o => se_bin op_mod o_mod (A Ω (in_l o)) (B Ω (in_r o))
  | Pow => exact .of_own fun Ω o => se_bin op_pow o_pow (A Ω (in_l o)) (B Ω (in_r o))
  | _ => exact Snd.bad
theorem o_neg {Ω : Nat → Bool} : Op1 W g Ω .rep (rU fun i => .int (-i)) fun x => (asI x).map fun i => .int (-i) := by
  intro σ H env F st x d v Q gr rx e z
  cases x with
  | int i => cases e; exact ⟨i, Rep.int_inv rx, z.int gr⟩
  | _ => cases e
theorem snd_un {r : RE} (hr : SndR W Gv X g r) {b : Bool} {o : UnaryOp} {a : Expr} {pos : Pos} : Snd W Gv X g b (.UnaryOp o a pos) (trUn r o a) := by
  unfold trUn
  cases o with
  | Not => exact .of_rep (fun Ω o => se_not ((hr true a).bor o)) rfl
  | USub => exact .of_rep (fun Ω o => se_un un_neg o_neg ((hr true a).bor o)) rfl
  | _ => exact Snd.bad
/-- a comparison's rule, of each operator -/
def CmpAt (W : Wd) (X : Cx) (g : Gh) (op : CmpOp) (o : Cop) : Prop := ∃ r, OpR X (compareOp op) r ∧ ∀ Ω, Op2 W g Ω .rep r fun x y => (cmpop o x y).map .bl
theorem cmp_at (C : CtxE W T Gv k X g sc) {op : CmpOp} {o : Cop} (h : trCop op = some o) : CmpAt W X g op o := by
  cases op <;> cases h
  · exact ⟨_, op_eqD (by have := C.hu; omega), fun Ω => o_eq C.hK⟩
  · exact ⟨_, op_neD (by have := C.hu; omega), fun Ω => o_ne C.hK⟩
  · exact ⟨_, r_lt, fun Ω => o_lt⟩
  · exact ⟨_, op_le, fun Ω => o_le⟩
  · exact ⟨_, op_gt, fun Ω => o_gt⟩
  · exact ⟨_, op_ge, fun Ω => o_ge⟩
  · exact ⟨_, r_is, fun Ω => o_is⟩
  · exact ⟨_, r_isnot, fun Ω => o_isnot⟩
  · exact ⟨_, r_in C.hu, fun Ω => o_in C.hK (neg := false)⟩
  · refine ⟨_, r_notin C.hu, fun Ω σ H env F st x y d v u Q gr rx ry e z => o_in (W := W) (g := g) (Ω := Ω) C.hK (neg := true) σ H env F st x y d v u Q gr rx ry ?_ z⟩
    simp only [cmpop] at e
    cases q : isinD x y with
    | none => rw [q] at e; cases e
    | some b => rw [q] at e; show (isinD x y).map _ = _; rw [q]; exact e
end
end Ev
/-! Ev17: soundness: comparisons, and, or, items, calls. -/
namespace Ev
open PySem PySem.Spec PyProof.Rows L2
section
variable {W : Wd} {T : TB} {Gv : G} {k : Nat} {X : Cx} {g : Gh} {sc : Scope} {r : RE} {b : Bool} {pos : Pos}
theorem snd_cmp (C : CtxE W T Gv k X g sc) (hr : SndR W Gv X g r) {a : Expr} : ∀ {ops : List CmpOp} {cs : List Expr}, Snd W Gv X g b (.Compare a ops cs pos) (trCmp r a ops cs)
  | [o], [c] => by
    simp only [trCmp]
    split
    · exact Snd.bad
    rename_i hm
    split
    · rename_i o' ho
      obtain ⟨rr, h1, h2⟩ := cmp_at C ho
      refine .of_rep (fun Ω o => SE.congr (se_cmp h1 (h2 Ω) ((hr true a).bor (in_l o)) ((hr true c).bor (in_r o)) (by simpa using hm)) rfl) rfl
    · exact Snd.bad
  | [o, p], [c, d] => by
    simp only [trCmp]
    split
    · exact Snd.bad
    rename_i hm
    split
    · rename_i o' p' ho hp
      obtain ⟨rr, h1, h2⟩ := cmp_at C ho
      obtain ⟨r2, h3, h4⟩ := cmp_at C hp
      refine .of_rep (fun Ω o => SE.congr (se_cmp2 h1 h3 (h2 Ω) (h4 Ω) ((hr true a).bor (in_l (in_l o))) ((hr true c).bor (in_r (in_l o))) ((hr true d).bor (in_r o)) (by simpa using hm)) rfl) rfl
    · exact Snd.bad
  | [], [] => Snd.bad
  | [], _ :: _ => Snd.bad
  | [_], [] => Snd.bad
  | [_], _ :: _ :: _ => Snd.bad
  | [_, _], [] => Snd.bad
  | [_, _], [_] => Snd.bad
  | [_, _], _ :: _ :: _ :: _ => Snd.bad
  | _ :: _ :: _ :: _, [] => Snd.bad
  | _ :: _ :: _ :: _, [_] => Snd.bad
  | _ :: _ :: _ :: _, [_, _] => Snd.bad
  | _ :: _ :: _ :: _, _ :: _ :: _ :: _ => Snd.bad
theorem snd_bool (hr : SndR W Gv X g r) {op : BoolOp} : ∀ {es : List Expr} (Ω : Nat → Bool), (∀ i ∈ varsE (trBool r op es), Ω i = false) → SE W X g Ω .rep (.BoolOp op es pos) (evE Gv (trBool r op es))
  | [], Ω, o => SE.stuck
  | [a], Ω, o => pe_one ((hr false a).rep rfl o)
  | a :: c :: rest, Ω, o => by
    cases op with
    | And =>
      have o : ∀ i ∈ varsE (r true a) ++ varsE (trBool r .And (c :: rest)), Ω i = false := o
      exact se_and ((hr true a).bor (in_l o)) (snd_bool hr Ω (in_r o))
    | Or =>
      have o : ∀ i ∈ varsE (r true a) ++ varsE (trBool r .Or (c :: rest)), Ω i = false := o
      exact se_or ((hr true a).bor (in_l o)) (snd_bool hr Ω (in_r o))
/-! ### tests -/
abbrev SndT (W : Wd) (GG : G) (X : Cx) (g : Gh) (e : Expr) (t : E) : Prop := ∀ Ω, (∀ i ∈ varsE t, Ω i = false) → ST W X g Ω e (evT GG t)
theorem sndT_val {e : Expr} {t : E} {b : Bool} (h : Snd W Gv X g b e t) (he : ∀ whole, isTrue e X.env whole = (do let v ← whole; standAt e.pos; holding [v] (truthy v))) : SndT W Gv X g e t := fun Ω o => st_val (h.bor o) he
theorem Res.bind_assoc {α β γ : Type} (x : Res α) (f : α → DS → Res β) (h : β → DS → Res γ) : (x.bind f).bind h = x.bind fun a st => (f a st).bind h := by cases x <;> rfl
theorem ofO_map {α β : Type} (o : Option α) (f : α → β) (st : DS) : ofO (o.map f) st = (ofO o st).bind fun a st => .ok (f a) st := by cases o <;> rfl
theorem sndT_cmp (C : CtxE W T Gv k X g sc) (hr : SndR W Gv X g r) {a : Expr} : ∀ {ops : List CmpOp} {cs : List Expr}, SndT W Gv X g (.Compare a ops cs pos) (trCmp r a ops cs)
  | [o], [c] => by
    simp only [trCmp]
    split
    · exact fun _ _ => ST.congr ST.stuck rfl
    rename_i hm
    split
    · rename_i o' ho
      obtain ⟨rr, h1, h2⟩ := cmp_at C ho
      refine fun Ω o => ST.congr (st_cmp h1 (h2 Ω) ((hr true a).bor (in_l o)) ((hr true c).bor (in_r o)) (by simpa using hm)) ?_
      funext env st
      show ((evE Gv (r true a) env st).bind _).bind _ = _
      rw [Res.bind_assoc]
      congr 1; funext x st1
      rw [Res.bind_assoc]
      congr 1; funext y st2
      rw [ofO_map, Res.bind_assoc]
      cases cmpop o' x y <;> rfl
    · exact fun _ _ => ST.congr ST.stuck rfl
  | [o, p], [c, d] => by
    simp only [trCmp]
    split
    · exact fun _ _ => ST.congr ST.stuck rfl
    rename_i hm
    split
    · rename_i o' p' ho hp
      obtain ⟨rr, h1, h2⟩ := cmp_at C ho
      obtain ⟨r2, h3, h4⟩ := cmp_at C hp
      exact fun Ω o => st_cmp2 h1 h3 (h2 Ω) (h4 Ω) ((hr true a).bor (in_l (in_l o))) ((hr true c).bor (in_r (in_l o))) ((hr true d).bor (in_r o)) (by simpa using hm)
    · exact fun _ _ => ST.congr ST.stuck rfl
  | [], [] => fun _ _ => ST.congr ST.stuck rfl
  | [], _ :: _ => fun _ _ => ST.congr ST.stuck rfl
  | [_], [] => fun _ _ => ST.congr ST.stuck rfl
  | [_], _ :: _ :: _ => fun _ _ => ST.congr ST.stuck rfl
  | [_, _], [] => fun _ _ => ST.congr ST.stuck rfl
  | [_, _], [_] => fun _ _ => ST.congr ST.stuck rfl
  | [_, _], _ :: _ :: _ :: _ => fun _ _ => ST.congr ST.stuck rfl
  | _ :: _ :: _ :: _, [] => fun _ _ => ST.congr ST.stuck rfl
  | _ :: _ :: _ :: _, [_] => fun _ _ => ST.congr ST.stuck rfl
  | _ :: _ :: _ :: _, [_, _] => fun _ _ => ST.congr ST.stuck rfl
  | _ :: _ :: _ :: _, _ :: _ :: _ :: _ => fun _ _ => ST.congr ST.stuck rfl
/-- the last of and, or as a test -/
theorem PW.imp {e : Expr} {t t' : TT} (h : PW X e t) (i : ∀ σ H Q, t' σ H Q → t σ H Q) : PW X e t' := ⟨fun wh pins s σ H Q I q => h.run wh pins s σ H Q I (i _ _ _ q)⟩
theorem sndT_bool (hr : ∀ b e, SndT W Gv X g e (r b e)) {op : BoolOp} : ∀ {es : List Expr} (Ω : Nat → Bool), (∀ i ∈ varsE (trBool r op es), Ω i = false) → PW X (.BoolOp op es pos) (tT W g Ω (evT Gv (trBool r op es)))
  | [], Ω, o => ⟨fun _ _ _ _ _ _ _ ⟨_, _, _, _, z⟩ => z.elim⟩
  | [a], Ω, o => by
    cases op with
    | And => exact pw_and1 (hr false a Ω o)
    | Or => exact pw_or1 (hr false a Ω o)
  | a :: c :: rest, Ω, o => by
    cases op with
    | And =>
      have o : ∀ i ∈ varsE (r true a) ++ varsE (trBool r .And (c :: rest)), Ω i = false := o
      have h := st_and (pos := pos) (hr true a Ω (in_l o)) (sndT_bool hr (op := .And) Ω (in_r o))
      refine PW.imp h fun σ H Q z => ?_
      obtain ⟨env, F, st, gr, z⟩ := z
      refine ⟨env, F, st, gr, ?_⟩
      have e : evT Gv (.and (r true a) (trBool r .And (c :: rest))) env st = (evT Gv (r true a) env st).bind fun k st => if k then evT Gv (trBool r .And (c :: rest)) env st else .ok false st := by
        show ((evE Gv (r true a) env st).bind _).bind _ = ((evE Gv (r true a) env st).bind _).bind _
        rw [Res.bind_assoc, Res.bind_assoc]
        congr 1; funext x st1
        rw [Res.bind_assoc]
        congr 1; funext k st2
        cases k <;> rfl
      have z : Wn _ _ (evT Gv (.and (r true a) (trBool r .And (c :: rest))) env st) := z
      rw [e] at z; exact z
    | Or =>
      have o : ∀ i ∈ varsE (r true a) ++ varsE (trBool r .Or (c :: rest)), Ω i = false := o
      have h := st_or (pos := pos) (hr true a Ω (in_l o)) (sndT_bool hr (op := .Or) Ω (in_r o))
      refine PW.imp h fun σ H Q z => ?_
      obtain ⟨env, F, st, gr, z⟩ := z
      refine ⟨env, F, st, gr, ?_⟩
      have e : evT Gv (.or (r true a) (trBool r .Or (c :: rest))) env st = (evT Gv (r true a) env st).bind fun k st => if k then .ok true st else evT Gv (trBool r .Or (c :: rest)) env st := by
        show ((evE Gv (r true a) env st).bind _).bind _ = ((evE Gv (r true a) env st).bind _).bind _
        rw [Res.bind_assoc, Res.bind_assoc]
        congr 1; funext x st1
        rw [Res.bind_assoc]
        congr 1; funext k st2
        cases k <;> rfl
      have z : Wn _ _ (evT Gv (.or (r true a) (trBool r .Or (c :: rest))) env st) := z
      rw [e] at z; exact z
theorem sndT_not {a : Expr} {t : E} (h : SndT W Gv X g a t) : SndT W Gv X g (.UnaryOp .Not a pos) (.not t) := fun Ω o => ST.congr (st_not (h Ω o)) (by
  funext env st
  show ((evE Gv t env st).bind _).bind _ = ((evE Gv t env st).bind _).bind _
  rw [Res.bind_assoc, Res.bind_assoc]
  congr 1; funext x st1
  cases x <;> rfl)
theorem sndT_ite {c a d : Expr} {tc ta td : E} (h : SndT W Gv X g c tc) (ha : SndT W Gv X g a ta) (hd : SndT W Gv X g d td) : SndT W Gv X g (.IfExp c a d pos) (.ite tc ta td) := fun Ω o =>
  ST.congr (st_ite (h Ω (in_l (in_l o))) (ha Ω (in_r (in_l o))) (hd Ω (in_r o))) (by
  funext env st
  show ((evE Gv tc env st).bind _).bind _ = ((evE Gv tc env st).bind _).bind _
  rw [Res.bind_assoc, Res.bind_assoc]
  congr 1; funext x st1
  rw [Res.bind_assoc]
  congr 1; funext k st2
  cases k <;> rfl)
end
end Ev
/-! Ev18: soundness: items, isinstance, calls. -/
namespace Ev
open PySem PySem.Spec PyProof.Rows L2
section
variable {W : Wd} {T : TB} {Gv : G} {k : Nat} {X : Cx} {g : Gh} {sc : Scope} {r : RE} {b : Bool} {pos : Pos}
theorem so_of (hr : SndR W Gv X g r) {o : Option Expr} {Ω : Nat → Bool} (h : ∀ i ∈ varsEs (trOp r o), Ω i = false) : SO W X g Ω o (evEs Gv (trOp r o)) := by
  cases o with
  | none => exact so_none
  | some e => exact so_some ((hr false e).rep rfl (in_l h))
theorem snd_sub (C : CtxE W T Gv k X g sc) (hr : SndR W Gv X g r) {a i : Expr} : Snd W Gv X g b (.Subscript a i pos) (trSub r a i) := by
  unfold trSub
  split
  · exact .of_own fun Ω o => se_slc C.hK ((hr true a).bor (in_l (in_l o))) (so_of hr (in_r (in_l o))) (so_of hr (in_r o))
  · exact Snd.bad
  · rename_i h1 h2
    exact .of_rep (fun Ω o => se_ix C.hK ((hr true a).bor (in_l o)) ((hr true i).bor (in_r o)) fun l u s p e => by
      cases s with
      | none => exact h1 _ _ _ e
      | some s => exact h2 _ _ _ _ e) rfl

/-! ### built-in functions -/
theorem CtxE.bn (C : CtxE W T Gv k X g sc) {x : Str} (h : x ∈ bltNames) : X.mg x = none := C.blt x h
theorem tyOf_name {x : Str} {ty : Ty} (h : tyOf x = some ty) : ∃ s, tyS ty = some s ∧ bootBuiltins x = some (.type s) ∧ x ∈ bltNames ∧ x ≠ "__name__" ∧ (x == ("__debug__" : Str)) = false := by
  unfold tyOf at h
  split at h
  · rename_i e; subst e; cases h; exact ⟨_, rfl, by decide +kernel, by decide, by decide, by decide⟩
  split at h
  · rename_i e; subst e; cases h; exact ⟨_, rfl, by decide +kernel, by decide, by decide, by decide⟩
  split at h
  · rename_i e; subst e; cases h; exact ⟨_, rfl, by decide +kernel, by decide, by decide, by decide⟩
  split at h
  · rename_i e; subst e; cases h; exact ⟨_, rfl, by decide +kernel, by decide, by decide, by decide⟩
  split at h
  · rename_i e; subst e; cases h; exact ⟨_, rfl, by decide +kernel, by decide, by decide, by decide⟩
  split at h
  · rename_i e; subst e; cases h; exact ⟨_, rfl, by decide +kernel, by decide, by decide, by decide⟩
  cases h
theorem pe_ty (C : CtxE W T Gv k X g sc) {x : Str} {ty : Ty} {p : Pos} (hg : glB sc x = true) (h : tyOf x = some ty) : ∃ s, tyS ty = some s ∧ PE X (.Name x p) (tC (.ty s)) := by
  obtain ⟨s, h1, h2, h3, h4, h5⟩ := tyOf_name h
  exact ⟨s, h1, pe_bltn (C.gl hg) (C.bn h3) h2 rfl h4 h5⟩
theorem pa_tys (C : CtxE W T Gv k X g sc) : ∀ {ns : List Expr} {ts : List Ty}, tyNames sc ns = some ts → ∃ ss : List String, ts.map tyS = ss.map some ∧ ss.length = ns.length ∧ PA X ns (tCs (ss.map V.ty))
  | [], ts, h => by cases h; exact ⟨[], rfl, rfl, PA.imp pa_nil fun σ H Q q => q⟩
  | a :: es, ts, h => by
    cases a with
    | Name x p =>
      simp only [tyNames] at h
      split at h
      case isFalse => cases h
      rename_i hg
      split at h
      · rename_i t ts' h1 h2
        cases h
        obtain ⟨s, e1, e2⟩ := pe_ty C (p := p) hg h1
        obtain ⟨ss, f1, f2, f3⟩ := pa_tys C h2
        exact ⟨s :: ss, by rw [List.map_cons, List.map_cons, e1, f1], by rw [List.length_cons, List.length_cons, f2], PA.imp (pa_cons e2 f3) fun σ H Q q => q⟩
      · cases h
    | _ => cases h
theorem isinB_1 {d : D} {ty : Ty} {s : String} (h : tyS ty = some s) : isinT Gv d [ty] = isinB d [ty] := isinT_of (by simp [h])
theorem snd_isi (C : CtxE W T Gv k X g sc) (hr : SndR W Gv X g r) {p : Pos} {a c : Expr} (hg : glB sc "isinstance" = true) (hn : ([a, c].all notStar) = true) : Snd W Gv X g b (.Call (.Name "isinstance" p) [a, c] [] pos) (trIsi T sc (r true a) c) := by
  have hs := star_of (a := a) (by simp only [List.all_cons, Bool.and_eq_true] at hn; exact hn.1) [c] X.env
  have hs2 := star_of (a := c) (by simp only [List.all_cons, Bool.and_eq_true] at hn; exact hn.2.1) [] X.env
  unfold trIsi
  split
  · rename_i x p2
    split
    case isFalse => exact Snd.bad
    rename_i hgx
    split
    · rename_i ty hty
      obtain ⟨s, h1, h2⟩ := pe_ty C (p := p2) hgx hty
      refine .of_rep (fun Ω o => SE.congr (se_isi C.hK h1 (C.gl hg) (C.bn (by decide)) h2 ((hr true a).bor o) hs hs2) ?_) rfl
      funext env st
      show (evE Gv (r true a) env st).bind _ = _
      congr 1; funext x st1
      rw [isinB_1 h1]
    · split
      case isFalse => exact Snd.bad
      rename_i hx
      rw [Bool.and_eq_true] at hx
      obtain ⟨hd, _, _⟩ := okN_d hx.1
      obtain ⟨Ca, h1, h2⟩ := C.isc x hx.2
      refine .of_rep (fun Ω o => ?_) rfl
      have h : PE X (.Call (.Name "isinstance" p) [a, .Name x p2] [] pos) (tCB (rIsiG X) (tCons (tE W g Ω .bor (evE Gv (r true a))) (tCons (tC (.ref Ca)) tNil))) :=
        pe_callB call_isiG (C.gl hg) (C.bn (by decide)) PyProof.Rows.boot_isinstance (pa_cons ((hr true a).bor o) (pa_cons (pe_glob (C.gl hgx) h1 rfl hd) pa_nil hs2) hs) (by decide) (by decide) hs (by rw [hs2]; rfl)
      refine PE.imp h fun σ H Q z => tE_op1 (r := fun v H Q => rIsiG X [v, .ref Ca] H Q) (op := fun d => (isinT Gv d [.cls x]).map .bl) (m := .rep) (fun σ H env F st x2 d v Q gr rx e z => ?_) z
      cases x2 with
      | exc c fs =>
        cases e
        obtain ⟨t, k1, k2⟩ := h2 c v H F gr.sub (Rep.excRep rx)
        exact ⟨v, .ref Ca, t, _, _, rfl, .own Ca, fun pins σ s u I rv => k1 s.heap u I.kIn I.hok rv, k2, z.bl gr⟩
      | _ => cases e
  · rename_i ns j p2
    split
    case isFalse => exact Snd.bad
    rename_i hl
    split
    · rename_i ts hts
      obtain ⟨ss, h1, h2, h3⟩ := pa_tys C hts
      refine .of_rep (fun Ω o => SE.congr (se_isiT C.hK h1 (by omega) (C.gl hg) (C.bn (by decide)) h3 ((hr true a).bor o) hs) ?_) rfl
      funext env st
      show (evE Gv (r true a) env st).bind _ = _
      congr 1; funext x st1
      rw [isinT_of]
      have e : (ts.map tyS).all (·.isSome) = true := by rw [h1]; simp
      rw [List.all_map] at e
      exact e
    · exact Snd.bad
  · exact Snd.bad
theorem snd_b1 (C : CtxE W T Gv k X g sc) (hr : SndR W Gv X g r) {x : Str} {p : Pos} {a : Expr} {o : B1} (hg : glB sc x = true) (hn : notStar a = true) (h : b1Of x = some o) : Snd W Gv X g b (.Call (.Name x p) [a] [] pos) (.b1 o (r true a)) := by
  have hs := star_of hn [] X.env
  have A := fun Ω o => (hr true a).bor (Ω := Ω) o
  unfold b1Of at h
  split at h
  · rename_i e; subst e; cases h; exact .of_rep (fun Ω o => se_cb call_len (C.gl hg) (C.bn (by decide)) boot_len (o_len C.hK) (A Ω o) hs (by decide) (by decide)) rfl
  split at h
  · rename_i e; subst e; cases h; exact .of_rep (fun Ω o => se_cb call_abs (C.gl hg) (C.bn (by decide)) PyProof.Rows.boot_abs o_abs (A Ω o) hs (by decide) (by decide)) rfl
  split at h
  · rename_i e; subst e; cases h; exact .of_rep (fun Ω o => se_ct call_int1 (C.gl hg) (C.bn (by decide)) PyProof.Rows.boot_int o_int1 (A Ω o) hs (by decide) (by decide)) rfl
  split at h
  · rename_i e; subst e; cases h; exact .of_rep (fun Ω o => se_cb (cr_all C.calm) (C.gl hg) (C.bn (by decide)) PyProof.Rows.boot_all o_all (A Ω o) hs (by decide) (by decide)) rfl
  split at h
  · rename_i e; subst e; cases h; exact .of_rep (fun Ω o => se_cb (cr_any C.calm) (C.gl hg) (C.bn (by decide)) PyProof.Rows.boot_any o_any (A Ω o) hs (by decide) (by decide)) rfl
  split at h
  · rename_i e; subst e; cases h; exact .of_rep (fun Ω o => se_cb (cr_sum C.calm) (C.gl hg) (C.bn (by decide)) PyProof.Rows.boot_sum o_sum (A Ω o) hs (by decide) (by decide)) rfl
  split at h
  · rename_i e; subst e; cases h; exact .of_rep (fun Ω o => se_ct call_tuple_of (C.gl hg) (C.bn (by decide)) PyProof.Rows.boot_tuple (o_tuple C.hK) (A Ω o) hs (by decide) (by decide)) rfl
  split at h
  · rename_i e; subst e; cases h; exact .of_own (fun Ω o => se_ct (call_listD C.calm) (C.gl hg) (C.bn (by decide)) PyProof.Rows.boot_list (o_listD C.hK) (A Ω o) hs (by decide) (by decide))
  split at h
  · rename_i e; subst e; cases h; exact .of_own (fun Ω o => se_cb (cr_sortedI.or cr_sortedS) (C.gl hg) (C.bn (by decide)) PyProof.Rows.boot_sorted (o_sorted C.hK) (A Ω o) hs (by decide) (by decide))
  cases h
theorem snd_blt (C : CtxE W T Gv k X g sc) (hr : SndR W Gv X g r) {x : Str} {p : Pos} (hg : glB sc x = true) (hok : okN x = true) : ∀ {as : List Expr}, as.all notStar = true → Snd W Gv X g b (.Call (.Name x p) as [] pos) (trBlt T r sc x as)
  | [], _ => Snd.bad
  | [a], hn => by
    simp only [trBlt]
    split
    · rename_i o h
      exact snd_b1 C hr hg (by simpa using hn) h
    · exact Snd.bad
  | [a, c], hn => by
    have hn' := hn
    simp only [List.all_cons, Bool.and_eq_true, List.all_nil, and_true] at hn'
    have hs := star_of hn'.1 [c] X.env
    have hs2 := star_of hn'.2 [] X.env
    simp only [trBlt]
    split
    · rename_i e; subst e; exact snd_isi C hr hg hn
    split
    · rename_i e; subst e
      split
      · rename_i hgc
        exact .of_rep (fun Ω o => se_gcd (C.gl hg) (C.gcd hgc) ((hr true a).bor (in_l o)) ((hr true c).bor (in_r o)) hs hs2 (by decide)) rfl
      · exact Snd.bad
    split
    · rename_i e; subst e
      exact .of_rep (fun Ω o => se_cb2 (call_min2 C.calm) (C.gl hg) (C.bn (by decide)) PyProof.Rows.boot_min o_min2 ((hr true a).bor (in_l o)) ((hr true c).bor (in_r o)) hs hs2 (by decide) (by decide)) rfl
    split
    · rename_i e; subst e
      exact .of_rep (fun Ω o => se_cb2 (call_max2 C.calm) (C.gl hg) (C.bn (by decide)) PyProof.Rows.boot_max o_max2 ((hr true a).bor (in_l o)) ((hr true c).bor (in_r o)) hs hs2 (by decide) (by decide)) rfl
    · exact Snd.bad
  | _ :: _ :: _ :: _, _ => Snd.bad

/-! ### methods -/
theorem snd_meth (C : CtxE W T Gv k X g sc) (hr : SndR W Gv X g r) {o : Expr} {m : Str} {ap : Pos} : ∀ {as : List Expr}, as.all notStar = true → Snd W Gv X g b (.Call (.Attribute o m ap) as [] pos) (trMeth r o m ap pos as) := by
  intro as hn
  unfold trMeth
  split
  case isFalse => exact Snd.bad
  rename_i hl
  split
  · rename_i a
    split
    case isFalse => exact Snd.bad
    rename_i e; subst e
    split
    case isFalse => exact Snd.bad
    rename_i ho
    have hb : attributeBase o "join" X.env (eval o X.env) = eval o X.env := by
      cases o <;> first | rfl | (simp [isBase] at ho)
    exact .of_rep (fun Ω h => se_join C.hK ((hr true o).bor (in_l h)) ((hr true a).bor (in_r h)) (star_of (by simpa using hn) [] X.env) hb hl) rfl
  · split
    case isFalse => exact Snd.bad
    rename_i e; subst e
    split
    case isFalse => exact Snd.bad
    rename_i ho
    have hb : attributeBase o "upper" X.env (eval o X.env) = eval o X.env := by
      cases o <;> first | rfl | (simp [isBase] at ho)
    exact .of_rep (fun Ω h => se_upper ((hr true o).bor h) hb hl) rfl
  · exact Snd.bad

/-! ### calls of defs -/
theorem plain_of {pos' : Pos} {env : PySem.Env} : ∀ {es : List Expr}, es.all notStar = true → (backTo pos' (starEach es env)).any (·.1) = false
  | [], _ => rfl
  | a :: es, h => by
    rw [List.all_cons, Bool.and_eq_true] at h
    rw [star_of h.1]
    show (false || (backTo pos' (starEach es env)).any (·.1)) = false
    rw [plain_of h.2]
    rfl
theorem snd_call0 (C : CtxE W T Gv k X g sc) {x : Str} {p : Pos} (hg : glB sc x = true) (hok : okN x = true) (h : T.fns.contains x = true) : Snd W Gv X g b (.Call (.Name x p) [] [] pos) (.call x .nil) := by
  obtain ⟨f, fd, ps, h1, h2, h3, h4, _⟩ := C.fns x h
  obtain ⟨hd, _, _⟩ := okN_d hok
  refine .of_rep (fun Ω o => PE.imp (pe_call0 h3 C.room (C.gl hg) h1 h2 h4 .nil C.pass hd) fun σ H Q z => ?_) rfl
  have z := tcall_of (fs := fun _ st => .ok [] st) (call := Gv.call x) z
  obtain ⟨env, F, st, gr, z⟩ := z
  exact z [] H F gr (Fx.refl H F) .nil
theorem snd_callF (C : CtxE W T Gv k X g sc) (hr : SndR W Gv X g r) (hbad : ∀ p q, r false (.Starred p q) = .bad) {x : Str} {p : Pos} {a : Expr} {as : List Expr} (hg : glB sc x = true) (hok : okN x = true) (hn : (a :: as).all notStar = true) (h : T.fns.contains x = true) :
    Snd W Gv X g b (.Call (.Name x p) (a :: as) [] pos) (.call x (toEs ((a :: as).map (r false)))) := by
  obtain ⟨f, fd, ps, h1, h2, h3, h4, _⟩ := C.fns x h
  obtain ⟨hd, _, _⟩ := okN_d hok
  have hn' := hn
  rw [List.all_cons, Bool.and_eq_true] at hn'
  exact .of_rep (fun Ω o => PE.imp (pe_call h3 C.room (C.gl hg) h1 h2 h4 .nil C.pass (sa_of hr hbad (a :: as) Ω o) hd (star_of hn'.1 as X.env) (plain_of hn'.2)) fun σ H Q z => tcall_of z) rfl
end
end Ev
/-! Ev19: soundness: keywords, comprehensions, iterators, the theorem of expressions. -/
namespace Ev
open PySem PySem.Spec PyProof.Rows L2
theorem permL_reps {W : Wd} {F : Hp} {vs : List V} {ds : List D} (r : Reps W F vs ds) : ∀ p : List Nat, Reps W F (permL p vs) (permL p ds)
  | [] => .nil
  | i :: p => by
    unfold permL
    rw [List.filterMap_cons, List.filterMap_cons]
    cases q : ds[i]? with
    | none =>
      have q2 : vs[i]? = none := by
        cases q3 : vs[i]? with
        | none => rfl
        | some v => obtain ⟨d, e, _⟩ := r.getV q3; rw [q] at e; cases e
      rw [q2]
      exact permL_reps r p
    | some d =>
      obtain ⟨v, e, h⟩ := r.get q
      rw [e]
      exact .cons h (permL_reps r p)
theorem permL_vals {vs : List V} {us : List Value} (r : Vals vs us) : ∀ p : List Nat, Vals (permL p vs) (permL p us)
  | [] => .nil
  | i :: p => by
    unfold permL
    rw [List.filterMap_cons, List.filterMap_cons]
    cases q : vs[i]? with
    | none => rw [r.none_of q]; exact permL_vals r p
    | some v =>
      obtain ⟨u, e, h⟩ := r.get q
      rw [e]
      exact .cons h (permL_vals r p)
section
variable {W : Wd} {T : TB} {Gv : G} {k : Nat} {X : Cx} {g : Gh} {sc : Scope} {r : RE} {b : Bool} {pos : Pos}
/-! ### keywords -/
theorem PK.imp {kws : List Keyword} {t t' : TA} (h : PK X kws t) (i : ∀ σ H Q, t' σ H Q → t σ H Q) : PK X kws t' := ⟨fun pos pins s σ H Q I q => h.run pos pins s σ H Q I (i _ _ _ q)⟩
theorem sk_of (hr : SndR W Gv X g r) : ∀ (kws : List Keyword) (Ω : Nat → Bool), (∀ i ∈ varsEs (toEs (kws.map fun k => r false k.value)), Ω i = false) → PK X kws (tA W g Ω (evEs Gv (toEs (kws.map fun k => r false k.value))))
  | [], Ω, _ => PK.imp pk_nil fun σ H Q ⟨env, F, st, gr, z⟩ => z [] H F gr (Fx.refl H F) .nil
  | ⟨n, e, p⟩ :: kws, Ω, o => PK.imp (pk_cons ((hr false e).rep rfl (in_l o)) (sk_of hr kws Ω (in_r o))) fun σ H Q ⟨env, F, st, gr, z⟩ => ⟨env, F, st, gr, z.bind.mono fun x st1 z v H1 F1 g1 fx1 l1 => ⟨env, F1, st1, g1, z.bind.mono fun ds st2 z vs H2 F2 g2 fx2 l2 =>
    z (v :: vs) H2 F2 g2 (fx1.trans fx2) (.cons (Rep.mono fx2.le l1) l2)⟩⟩
theorem kw_names {pos' : Pos} {env : PySem.Env} : ∀ {kws : List Keyword} {ks : List Str}, kwNames kws = some ks → (backToKw pos' (keywordEach kws env)).all (·.1.isSome) = true ∧ (backToKw pos' (keywordEach kws env)).filterMap (·.1) = ks ∧ (backToKw pos' (keywordEach kws env)).any (·.1.isNone) = false ∧ ks.length = kws.length
  | [], ks, h => by cases h; exact ⟨rfl, rfl, rfl, rfl⟩
  | ⟨none, e, p⟩ :: kws, ks, h => by cases h
  | ⟨some x, e, p⟩ :: kws, ks, h => by
    simp only [kwNames] at h
    cases q : kwNames kws with
    | none => rw [q] at h; cases h
    | some ks' =>
      rw [q] at h
      cases h
      obtain ⟨h1, h2, h3, h4⟩ := kw_names (pos' := pos') (env := env) q
      refine ⟨?_, ?_, ?_, by rw [List.length_cons, List.length_cons, h4]⟩
      · show (true && (backToKw pos' (keywordEach kws env)).all (·.1.isSome)) = true
        rw [h1]; rfl
      · show x :: (backToKw pos' (keywordEach kws env)).filterMap (·.1) = _
        rw [h2]
      · show (false || (backToKw pos' (keywordEach kws env)).any (·.1.isNone)) = false
        rw [h3]; rfl
/-- f(k = v, ..), nothing by position -/
theorem pe_callK0 {CX : CXT} {f : Addr} {fd : FuncData} {ps ks : List Str} {sp : Sp} {E : XK} {x : Str} {p : Pos} {kws : List Keyword} {tk : TA} {gg : List Value → List Value → List Value} {gV : List V → List V → List V} (F : FnOk X.prog X.w X.K X.mg X.base CX k f fd ps sp) (hr : Room k X.A) (hg : Gl X x) (hm : X.mg x = some (.ref f)) (hk : PySem.W.keepIn X.K (.ref f) = true) (hb : KBinds X.K fd ps ks gg gV) (hx : Passes CX X E)
    (hkw : PK X kws tk) (hall : (backToKw pos (keywordEach kws X.env)).all (·.1.isSome) = true) (hks : (backToKw pos (keywordEach kws X.env)).filterMap (·.1) = ks) (hdb : (x == ("__debug__" : Str)) = false)
    (hpl : ((backTo pos (starEach [] X.env)).any (·.1) || (backToKw pos (keywordEach kws X.env)).any (·.1.isNone)) = false) : PE X (.Call (.Name x p) [] kws pos) (tCallK sp gV E tNil tk) := by
  refine ⟨fun pins s σ H Q I h => ?_⟩
  refine wpAny_Call_Name_kw (ld_glob I hg hm ?_ hdb)
  refine PySem.W.callWith_KW0 (h₀ := X.base) I.ok.mod.kin hk hall (thn (hkw.run pos pins s σ H _ I h) fun ws s2 ⟨zs, H2, I2, rz, q2⟩ => ⟨I2.kIn, ?_⟩) hpl
  rw [hks]
  exact run_fnk (us := []) (vs := []) F hr hb hx I2 .nil rz q2
theorem tcallK_of {call : List D → DS → Res D} {fs fk : Fs} {n m : Nat} {perm : List Nat} {Ω : Nat → Bool} {σ : L2.St} {H : Hp} {Q : VK} (h1 : ∀ env st ds st', fs env st = .ok ds st' → ds.length = n) (h2 : ∀ env st ds st', fk env st = .ok ds st' → ds.length = m)
    (z : tE W g Ω .rep (fun env st => (fs env st).bind fun ds st => (fk env st).bind fun kds st => call (permL perm (ds ++ kds)) st) σ H Q) : tCallK (spF W call) (permG n m perm) g.E0 (tA W g Ω fs) (tA W g Ω fk) σ H Q := by
  obtain ⟨env, F, st, gr, z⟩ := z
  refine ⟨env, F, st, gr, (z.bind.with_ fun ds st1 => h1 _ _ _ _).mono fun ds st1 ⟨z, l1⟩ vs H1 F1 g1 fx1 r1 => ⟨env, F1, st1, g1, (z.bind.with_ fun ds st1 => h2 _ _ _ _).mono fun kds st2 ⟨z, l2⟩ zs H2 F2 g2 fx2 r2 => ?_⟩⟩
  have rr : Reps W F2 (permG n m perm vs zs) (permL perm (ds ++ kds)) := by
    unfold permG
    rw [if_pos ⟨by rw [r1.length, l1], by rw [r2.length, l2]⟩]
    exact permL_reps ((r1.mono fx2.le).append r2) perm
  refine ⟨F2, st2, _, g2.sub, g2.nmut, ⟨g2.inv, g2.tb⟩, rr, ?_⟩
  have up : ∀ {r : Res D}, Wn (PstE W g Ω .rep σ H F env Q) (Lets W g) r → Wn (fun d st' => ∀ v H' F', Fin W ⟨H2, F2, g.E0⟩ H' F' st' → Rep W F' v d → Q v H') (Lets W ⟨H2, F2, g.E0⟩) r := fun {r} z => by
    cases r with
    | ok d st3 => exact fun v H' F' f r => z v H' F' (g2.back f) ((fx1.trans fx2).trans (f.fx st2 g2.inv)) r
    | raise c fs st3 => exact Lets.up g2 z
    | stuck => exact z
  exact up z
theorem snd_callK (C : CtxE W T Gv k X g sc) (hr : SndR W Gv X g r) (hbad : ∀ p q, r false (.Starred p q) = .bad) {x : Str} {p : Pos} {as : List Expr} {kws : List Keyword} {ks : List Str} {q : Str × Nat × List Str × List Nat} (hg : glB sc x = true) (hok : okN x = true) (hn : as.all notStar = true)
    (h : T.kfns.find? (fun p => decide (p.1 = x ∧ p.2.1 = as.length ∧ p.2.2.1 = ks)) = some q) (hk : kwNames kws = some ks) :
    Snd W Gv X g b (.Call (.Name x p) as kws pos) (.callk x (toEs (as.map (r false))) (toEs (kws.map fun k => r false k.value)) q.2.2.2) := by
  have hq : q.1 = x ∧ q.2.1 = as.length ∧ q.2.2.1 = ks := by have z := List.find?_some h; exact of_decide_eq_true z
  have hm := List.mem_of_find?_eq_some h
  obtain ⟨f, fd, ps, h1, h2, h3, h4, h5⟩ := C.kfns q hm
  rw [hq.1] at h1 h3
  have kb := h5 q hm rfl
  obtain ⟨hd, _, _⟩ := okN_d hok
  obtain ⟨k1, k2, k3, k4⟩ := kw_names (pos' := pos) (env := X.env) hk
  rw [hq.2.2, hq.2.1] at kb
  have l1 : ∀ (env : Env) (st : DS) (ds : List D) (st' : DS), evEs Gv (toEs (as.map (r false))) env st = .ok ds st' → ds.length = as.length := fun env st ds st' z => by rw [evEs_len _ env st ds st' z, List.length_map]
  have l2 : ∀ (env : Env) (st : DS) (ds : List D) (st' : DS), evEs Gv (toEs (kws.map fun k => r false k.value)) env st = .ok ds st' → ds.length = ks.length := fun env st ds st' z => by rw [evEs_len _ env st ds st' z, List.length_map, k4]
  cases as with
  | nil =>
    refine .of_rep (fun Ω o => PE.imp (pe_callK0 h3 C.room (C.gl hg) h1 h2 kb C.pass (sk_of hr kws Ω (in_r o)) k1 k2 hd (by rw [k3]; rfl)) fun σ H Q z => ?_) rfl
    have z := tcallK_of (call := Gv.call x) l1 l2 z
    obtain ⟨env, F, st, gr, z⟩ := z
    exact z [] H F gr (Fx.refl H F) .nil
  | cons a as =>
    have hn' := hn
    rw [List.all_cons, Bool.and_eq_true] at hn'
    refine .of_rep (fun Ω o => PE.imp (pe_callK h3 C.room (C.gl hg) h1 h2 kb C.pass (sa_of hr hbad (a :: as) Ω (in_l o)) (sk_of hr kws Ω (in_r o)) k1 k2 hd (star_of hn'.1 as X.env) (by rw [k3, Bool.or_false]; exact plain_of hn)) fun σ H Q z => tcallK_of l1 l2 z) rfl
theorem snd_call (C : CtxE W T Gv k X g sc) (hr : SndR W Gv X g r) (hbad : ∀ p q, r false (.Starred p q) = .bad) {f : Expr} {as : List Expr} {kws : List Keyword} : Snd W Gv X g b (.Call f as kws pos) (trCall T r sc f as kws pos) := by
  unfold trCall
  split
  case isFalse => exact Snd.bad
  rename_i hn
  split
  · rename_i x p
    split
    case isFalse => exact Snd.bad
    rename_i hx
    rw [Bool.and_eq_true] at hx
    split
    · split
      · split
        · rename_i h; exact snd_call0 C hx.1 hx.2 h
        · exact Snd.bad
      · split
        · rename_i h; exact snd_callF C hr hbad hx.1 hx.2 hn h
        · exact snd_blt C hr hx.1 hx.2 hn
    · split
      · rename_i ks hk
        split
        · rename_i q hq
          exact snd_callK C hr hbad hx.1 hx.2 hn hq hk
        · exact Snd.bad
      · exact Snd.bad
  · rename_i o m ap
    split
    · rename_i h
      have e : kws = [] := by cases kws with | nil => rfl | cons _ _ => cases h
      subst e
      exact snd_meth C hr hn
    · exact Snd.bad
  · exact Snd.bad

/-! ### targets, iterators -/
theorem SG.never {e : Expr} {Ω : Nat → Bool} : SG W X g Ω e .bad := ⟨fun _ _ _ _ _ _ _ _ _ ⟨_, _, _, _, _, _, _, b, _⟩ => by cases b⟩
/-- where names are stored -/
def TgOk (X : Cx) (sc0 : Scope) : Prop := ∀ x, locB sc0 x = true → L2.Loc X.env.scope x ∧ (X.fn x = true ∨ X.env.scope.names.lookup x = some .local)
theorem CtxE.tg (C : CtxE W T Gv k X g sc) (hfn : ∀ x, X.fn x = true) : TgOk X sc := fun x h => ⟨C.loc h, .inl (hfn x)⟩
theorem tgOk_blk {scope : Scope} {s : Shared} {H : Hp} {Ca : Addr} {cl : List (Str × Addr)} {fp : List Addr} : TgOk (X.blk s H scope (compEnvC scope cl Ca X.env) fp) scope := fun x h => by
  unfold locB at h
  split at h
  · rename_i e
    have q := lookup_relS_keep (sc := X.env.scope) (k := .local) (by decide) e
    exact ⟨.inl q, .inr q⟩
  · rename_i e
    have q := lookup_relS_keep (sc := X.env.scope) (k := .cell) (by decide) e
    refine ⟨.inr q, .inl ?_⟩
    show (scope.names.lookup x == some .cell) = true
    rw [e]
    rfl
  · cases h
theorem sg_names {sc0 : Scope} (C : CtxE W T Gv k X g sc) (hl0 : TgOk X sc0) : ∀ {es : List Expr} {is : List Nat} {Ω : Nat → Bool}, trNs T.N sc0 es = some is → (∀ i ∈ is, Ω i = false) →
    PGs X es (tGs W g Ω is) ∧ is.length = es.length ∧ (assignEach es X.env).length = es.length ∧ (assignEach es X.env).findIdx? (·.1) = none
  | [], is, Ω, h, _ => by cases h; exact ⟨sgs_nil, rfl, rfl, rfl⟩
  | a :: es, is, Ω, h, o => by
    cases a with
    | Name x p =>
      simp only [trNs] at h
      split at h
      case isFalse => cases h
      rename_i hl
      split at h
      · rename_i i is' h1 h2
        cases h
        obtain ⟨k1, k2, k3, k4⟩ := sg_names C hl0 h2 (Ω := Ω) fun j hj => o j (List.mem_cons_of_mem _ hj)
        refine ⟨sgs_cons (pg_name (by rw [C.hN]; exact C.nd) (C.ix h1) (hl0 x hl).1 (hl0 x hl).2) (o i List.mem_cons_self) k1 rfl, by rw [List.length_cons, List.length_cons, k2], ?_, ?_⟩
        · show (assignEach es X.env).length + 1 = _
          rw [k3]; rfl
        · show (List.findIdx? (·.1) (_ :: assignEach es X.env)) = none
          rw [List.findIdx?_cons]
          show (if false = true then _ else _) = none
          rw [if_neg (by decide), k4]
          rfl
      · cases h
    | _ => cases h
theorem snd_tg {sc0 : Scope} (C : CtxE W T Gv k X g sc) (hl0 : TgOk X sc0) {e : Expr} {Ω : Nat → Bool} (o : ∀ i ∈ tgs (trTg T.N sc0 e), Ω i = false) : SG W X g Ω e (trTg T.N sc0 e) := by
  cases e with
  | Name x p =>
    simp only [trTg] at o ⊢
    split
    case isFalse => exact SG.never
    rename_i hl
    split
    · rename_i i hi
      rw [if_pos hl] at o
      simp only [hi] at o
      exact sg_nm (pg_name (by rw [C.hN]; exact C.nd) (C.ix hi) (hl0 x hl).1 (hl0 x hl).2) (o i List.mem_cons_self)
    · exact SG.never
  | Tuple es j p =>
    simp only [trTg] at o ⊢
    split
    · rename_i is hi
      simp only [hi] at o
      obtain ⟨h1, h2, h3, h4⟩ := sg_names C hl0 hi o
      exact sg_tp C.hK C.calm h1 h2 h3 h4
    · exact SG.never
  | _ => exact SG.never
theorem SI.stuckI {tg e : Expr} {Ω : Nat → Bool} : SI W X g Ω tg e fun _ _ => .stuck := ⟨fun _ _ _ _ _ _ ⟨_, _, _, _, z⟩ => z.elim⟩
theorem jok_enum {K : PySem.W.Frag} {a : Addr} {vs : List V} {xs : List D} {F : Hp} (h : F a = some (.lst vs)) (r : Reps W F vs xs) : JOK W g (Ite K a) (enumL 0 xs) F := fun i Ω σ H1 env F1 st gr l => by
  have get : ∀ (xs : List D) (n i : Nat) (d : D), (enumL n xs)[i]? = some d → ∃ x, d = .tup [.int ((n + i : Nat) : Int), x] ∧ xs[i]? = some x := fun xs => by
    induction xs with
    | nil => intro n i d h; simp [enumL] at h
    | cons x xs ih =>
      intro n i d h
      cases i with
      | zero => simp [enumL] at h; exact ⟨x, h.symm, rfl⟩
      | succ i =>
        rw [enumL, List.getElem?_cons_succ] at h
        obtain ⟨y, e, h2⟩ := ih (n + 1) i d h
        exact ⟨y, by rw [e]; congr 4; omega, by simpa using h2⟩
  have len : ∀ (xs : List D) (n : Nat), (enumL n xs).length = xs.length := fun xs => by
    induction xs with
    | nil => intro n; rfl
    | cons x xs ih => intro n; rw [enumL, List.length_cons, ih, List.length_cons]
  have ha : SqL K H1 a vs := SqL.of ((gr.sub _ _ (l _ _ h)).plain rfl)
  refine ⟨fun d e => ?_, fun e => ⟨vs, ha, by rw [r.length, ← len xs 0]; exact e⟩⟩
  obtain ⟨x, e, e1⟩ := get xs 0 i d e
  subst e
  obtain ⟨v, e3, r1⟩ := r.get e1
  refine ⟨⟨vs, v, ha, e3⟩, fun w H2 y => ?_⟩
  obtain ⟨Ta, x1, rfl, n, rfl, k1⟩ := y
  have q1 := k1 vs ha
  rw [e3] at q1
  cases q1
  have fx := Fx.allocK (o := .tup [.int ((i : Nat) : Int), v]) (gr.free n) n
  refine ⟨fun c o z => by rw [L2.upd_ne (ne_of_none z n)]; exact z, _, gr.allocK n, fx, ?_⟩
  rw [Nat.zero_add]
  exact .tup (SqT.of L2.upd_same) (.cons (.int _) (.cons ((r1.mono l).mono fx.le) .nil))
theorem enumL_len : ∀ (xs : List D) (n : Nat), (enumL n xs).length = xs.length
  | [], n => rfl
  | x :: xs, n => by rw [enumL, List.length_cons, enumL_len xs (n + 1), List.length_cons]
theorem si_enum {Ω : Nat → Bool} {a : Expr} {f : Fe} {p tpos : Pos} {elts : List Expr} {kk : Nat} (hK : X.K = W.K) (hg : Gl X "enumerate") (hm : X.mg "enumerate" = none) (ha : SE W X g Ω .rep a f) (hs : starEach [a] X.env = [(false, eval a X.env)]) :
    SI W X g Ω (.Tuple elts kk tpos) (.Call (.Name "enumerate" p) [a] [] pos) fun env st => (f env st).bind fun d st => ofO (enumD d) st :=
  PI.len hK <| PI.imp (pi_enum hg hm (pa_cons ha pa_nil hs) hs) fun σ H R ⟨env, F, st, gr, z⟩ => ⟨env, F, st, gr, z.bind.mono fun d st1 z v H1 F1 g1 fx1 l1 => by
    obtain ⟨ds, q, z⟩ := Wn.ofO z
    cases d with
    | lst xs =>
      cases q
      cases l1 with
      | @lst a vs _ h1 r => exact ⟨a, vs, rfl, SqL.of ((g1.sub _ _ h1).plain rfl), z _ H1 F1 g1 fx1 (jok_enum h1 r) (.inr ⟨_, _, .inl ⟨_, Le.refl _, h1⟩, by rw [r.length, enumL_len]; exact Nat.le_refl _⟩)⟩
    | _ => cases q⟩
theorem snd_i (C : CtxE W T Gv k X g sc) (hr : SndR W Gv X g r) {tg it : Expr} : ∀ Ω, (∀ i ∈ varsI (trI r sc tg it), Ω i = false) → SI W X g Ω tg it (evI Gv (trI r sc tg it)) := by
  have E := fun (e : Expr) (Ω : Nat → Bool) (o : ∀ i ∈ varsE (r false e), Ω i = false) => si_e (tg := tg) C.hK ((hr false e).rep rfl o)
  unfold trI
  split
  · rename_i x p as kws cp
    split
    case isFalse => exact E _
    rename_i hh
    simp only [Bool.and_eq_true] at hh
    have hg := C.gl hh.1.1
    have e : kws = [] := by cases kws with | nil => rfl | cons _ _ => cases hh.1.2
    subst e
    split
    · rename_i a
      have hs := star_of (a := a) (by simpa using hh.2) [] X.env
      split
      · rename_i e; subst e
        exact fun Ω o => si_range1 C.hK hg (C.bn (by decide)) ((hr false a).rep rfl o) hs
      · split
        · rename_i h2
          rw [Bool.and_eq_true, decide_eq_true_eq] at h2
          obtain ⟨h2, h3⟩ := h2
          subst h2
          cases tg with
          | Tuple es j tp => exact fun Ω o => si_enum C.hK hg (C.bn (by decide)) ((hr false a).rep rfl o) hs
          | _ => cases h3
        · exact E _
    · rename_i a c
      have hn := hh.2
      simp only [List.all_cons, Bool.and_eq_true, List.all_nil, and_true] at hn
      have hs := star_of hn.1 [c] X.env
      have hs2 := star_of hn.2 [] X.env
      split
      · rename_i e; subst e
        exact fun Ω o => si_range2 C.hK hg (C.bn (by decide)) ((hr false a).rep rfl (in_l o)) ((hr false c).rep rfl (in_r o)) (by rw [hs, hs2]; rfl) hs2
      · split
        · rename_i h2
          rw [Bool.and_eq_true, decide_eq_true_eq] at h2
          obtain ⟨h2, h3⟩ := h2
          subst h2
          cases tg with
          | Tuple es j tp => exact fun Ω o => si_zip C.hK hg (C.bn (by decide)) ((hr false a).rep rfl (in_l o)) ((hr false c).rep rfl (in_r o)) hs hs2
          | _ => cases h3
        · exact E _
    · exact E _
  · exact E _
end
end Ev
/-! Ev20: soundness: comprehensions; the theorem of expressions. -/
namespace Ev
open PySem PySem.Spec PyProof.Rows L2
section
variable {W : Wd} {T : TB} {Gv : G} {k : Nat} {X : Cx} {g : Gh} {sc : Scope} {r r' : RE} {b : Bool} {pos : Pos}
/-- what a comprehension's parts must be -/
structure CompOk (W : Wd) (Gv : G) (X : Cx) (g : Gh) (Ω : Nat → Bool) (tg it elt : Expr) (ifs : List Expr) (scope : Scope) (own : List (Str × Nat)) (t : Tg) (i : I) (cs : Es) (te : E) : Prop where
  hi : SI W X g Ω tg it (evI Gv i)
  ok : BlkOk X.N X.env.scope scope own
  hg : ∀ (s : Shared) (H : Hp) (Ca : Addr) (cl : List (Str × Addr)) (fp : List Addr), PG (X.blk s H scope (compEnvC scope cl Ca X.env) fp) tg (fun v σ H Q => ∃ g' : GB, tG W g'.1 (fun i => Ω i && !(own.map (·.2)).contains i) t v σ H Q)
  ht : ∀ (s : Shared) (H : Hp) (Ca : Addr) (cl : List (Str × Addr)) (fp : List Addr), PTs (X.blk s H scope (compEnvC scope cl Ca X.env) fp) ifs (fun σ H Q => ∃ g' : GB, tT W g'.1 (fun i => Ω i && !(own.map (·.2)).contains i) (evCs Gv cs) σ H Q)
  he : ∀ (s : Shared) (H : Hp) (Ca : Addr) (cl : List (Str × Addr)) (fp : List Addr), PE (X.blk s H scope (compEnvC scope cl Ca X.env) fp) elt (fun σ H Q => ∃ g' : GB, tE W g'.1 (fun i => Ω i && !(own.map (·.2)).contains i) .rep (evE Gv te) σ H Q)
  hs : ∀ x, foldedSetIterable it X.env x = pure x
  tg : ∀ j ∈ tgs t, j ∈ own.map (·.2)
theorem notSet_f {it : Expr} (h : notSet it = true) (env : PySem.Env) (x : Value) : foldedSetIterable it env x = pure x := by
  cases it <;> first | rfl | cases h
theorem comp_ok (C : CtxE W T Gv k X g sc) (hr : SndR W Gv X g r) {scope : Scope} (hr' : ∀ (g' : GB) (s : Shared) (H : Hp) (Ca : Addr) (cl : List (Str × Addr)) (fp : List Addr), CtxE W T.noLam Gv k (X.blk s H scope (compEnvC scope cl Ca X.env) fp) g'.1 (relS scope sc) → SndR W Gv (X.blk s H scope (compEnvC scope cl Ca X.env) fp) g'.1 r' ∧ ∀ b e, SndT W Gv (X.blk s H scope (compEnvC scope cl Ca X.env) fp) g'.1 e (r' b e))
    {tg it elt : Expr} {ifs : List Expr} (h2 : blkC T.N sc scope (ownOf T.N scope) = true) (h3 : (tgs (trTg T.N scope tg)).all (fun i => ((ownOf T.N scope).map (·.2)).contains i) = true) (h4 : notSet it = true) (h5 : ifs.length ≤ 1) {Ω : Nat → Bool}
    (o : ∀ i ∈ varsE (.comp ((ownOf T.N scope).map (·.2)) (trTg T.N scope tg) (trI r sc tg it) (toEs (ifs.map (r' true))) (r' false elt)), Ω i = false) :
    CompOk W Gv X g Ω tg it elt ifs scope (ownOf T.N scope) (trTg T.N scope tg) (trI r sc tg it) (toEs (ifs.map (r' true))) (r' false elt) := by
  have o1 : ∀ i ∈ varsI (trI r sc tg it), Ω i = false := in_r (in_l (in_l o))
  have o2 : ∀ i ∈ varsEs (toEs (ifs.map (r' true))), Ω i = false := in_r (in_l o)
  have o3 : ∀ i ∈ varsE (r' false elt), Ω i = false := in_r o
  have tgm : ∀ j ∈ tgs (trTg T.N scope tg), j ∈ (ownOf T.N scope).map (·.2) := fun j hj => by
    have z := List.all_eq_true.mp h3 j hj
    exact List.contains_iff_mem.mp z
  have down : ∀ {l : List Nat}, (∀ i ∈ l, Ω i = false) → ∀ i ∈ l, (Ω i && !((ownOf T.N scope).map (·.2)).contains i) = false := fun h i hi => by rw [h i hi]; rfl
  have bk : BlkOk X.N X.env.scope scope (ownOf T.N scope) := by rw [C.hN, C.hsc]; exact blkOk_by h2
  have cb := fun (g' : GB) s H Ca cl fp => C.blk (scope := scope) bk.kind g' s H Ca cl fp
  refine ⟨snd_i C hr Ω o1, bk, fun s H Ca cl fp => PG.ex fun g' => snd_tg (cb g' s H Ca cl fp) tgOk_blk fun i hi => ?_, fun s H Ca cl fp => PTs.ex fun g' => ?_, fun s H Ca cl fp => PE.ex fun g' => ((hr' g' s H Ca cl fp (cb g' s H Ca cl fp)).1 false elt).rep rfl (down o3), fun x => notSet_f h4 _ x, tgm⟩
  · have z := List.contains_iff_mem.mpr (tgm i hi)
    show (Ω i && !((ownOf T.N scope).map (·.2)).contains i) = false
    rw [z, Bool.not_true, Bool.and_false]
  · match ifs, h5, o2 with
    | [], _, _ => exact stp_nil
    | [c], _, o2 =>
      have h := (hr' g' s H Ca cl fp (cb g' s H Ca cl fp)).2 true c (fun i => Ω i && !((ownOf T.N scope).map (·.2)).contains i) (down (in_l o2))
      refine stp_one (ST.congr h ?_)
      funext env st
      show (evE Gv (r' true c) env st).bind _ = (evE Gv (r' true c) env st).bind _
      congr 1; funext d st1
      cases asB d with
      | none => rfl
      | some k => cases k <;> rfl
theorem se_comp (C : CtxE W T Gv k X g sc) {Ω : Nat → Bool} {tg it elt : Expr} {ifs : List Expr} {scope : Scope} {own : List (Str × Nat)} {t : Tg} {i : I} {cs : Es} {te : E} (h : CompOk W Gv X g Ω tg it elt ifs scope own t i cs te) :
    SE W X g Ω .own (.ListComp elt [⟨tg, it, ifs, 0⟩] scope pos) (evE Gv (.comp (own.map (·.2)) t i cs te)) :=
  PE.imp (pe_lc C.calm (by rw [C.hN]; exact C.nd) h.hi h.ok h.hg h.ht h.he h.hs) fun σ H Q z => tlc_of h.tg z
theorem snd_comp (C : CtxE W T Gv k X g sc) (hr : SndR W Gv X g r) {scope : Scope} (hr' : ∀ (g' : GB) (s : Shared) (H : Hp) (Ca : Addr) (cl : List (Str × Addr)) (fp : List Addr), CtxE W T.noLam Gv k (X.blk s H scope (compEnvC scope cl Ca X.env) fp) g'.1 (relS scope sc) → SndR W Gv (X.blk s H scope (compEnvC scope cl Ca X.env) fp) g'.1 r' ∧ ∀ b e, SndT W Gv (X.blk s H scope (compEnvC scope cl Ca X.env) fp) g'.1 e (r' b e))
    {elt : Expr} {gens : List Comprehension} : Snd W Gv X g b (.ListComp elt gens scope pos) (trComp T r r' sc scope elt gens) := by
  unfold trComp
  split
  · rename_i tg it ifs a
    dsimp only
    split
    case isFalse => exact Snd.bad
    rename_i hh
    simp only [Bool.and_eq_true, decide_eq_true_eq] at hh
    obtain ⟨⟨⟨⟨h1, h2⟩, h3⟩, h4⟩, h5⟩ := hh
    subst h1
    exact .of_own fun Ω o => se_comp C (comp_ok C hr hr' h2 h3 h4 h5 o)
  · exact Snd.bad
theorem snd_ite {c a d : Expr} {tc ta td : E} (h : SndT W Gv X g c tc) (ha : Snd W Gv X g b a ta) (hd : Snd W Gv X g b d td) : Snd W Gv X g b (.IfExp c a d pos) (.ite tc ta td) := fun Ω o => by
  have e : (fun env st => (evT Gv tc env st).bind fun k st => if k then evE Gv ta env st else evE Gv td env st) = evE Gv (.ite tc ta td) := by
    funext env st
    show ((evE Gv tc env st).bind _).bind _ = (evE Gv tc env st).bind _
    rw [Res.bind_assoc]
  cases b with
  | true => exact ⟨.bor, SE.congr (se_ite (h Ω (in_l (in_l o))) (ha.bor (in_r (in_l o))) (hd.bor (in_r o))) e.symm, fun _ => rfl, fun z => nomatch z⟩
  | false => exact ⟨.rep, SE.congr (se_ite (h Ω (in_l (in_l o))) (ha.rep rfl (in_r (in_l o))) (hd.rep rfl (in_r o))) e.symm, (fun z => nomatch z), (fun z => nomatch z)⟩
end
/-! ### x(lambda: body) -/
theorem lk_keep {caps : List Nat} : ∀ {env : Env} {n i : Nat} {d : D}, lk (keepE caps n env) i = some d → lk env i = some d ∧ caps.contains (n + i) = true
  | [], n, i, d, h => by simp [keepE, lk] at h
  | e :: r, n, 0, d, h => by
    rw [keepE, lk] at h
    split at h
    · rename_i c; exact ⟨h, c⟩
    · cases h
  | e :: r, n, i + 1, d, h => by
    rw [keepE, lk] at h
    obtain ⟨h1, h2⟩ := lk_keep h
    refine ⟨h1, ?_⟩
    have e : n + 1 + i = n + (i + 1) := by omega
    rw [e] at h2; exact h2
theorem keep_len (caps : List Nat) : ∀ (env : Env) (n : Nat), (keepE caps n env).length = env.length
  | [], _ => rfl
  | _ :: r, n => congrArg (· + 1) (keep_len caps r (n + 1))
theorem GR.lam {W : Wd} {g : Gh} {Ω : Nat → Bool} {σ : L2.St} {H H1 : Hp} {env : Env} {F : Hp} {st : DS} {P c : Addr} {q : Str} (r : GR W g Ω σ H env F st) (hP : (P, q) ∈ W.tabs) (h : H1 = H ∨ ∃ ps, H c = none ∧ H1 = upd (upd H P (.tbl ps)) c (LamX.CodeO c q)) (hT : LamX.Tabs W.tabs H1) :
    GR W g Ω σ H1 env F st ∧ Fx H F H1 F := by
  rcases h with h | ⟨ps, hc, h⟩
  · subst h; exact ⟨r, Fx.refl _ _⟩
  have mP : W.mt P := W.mtT _ hP
  have at_ : ∀ a o, H a = some o → ¬ W.mt a → H1 a = some o := fun a o e n => by
    rw [h, upd_ne (ne_of_none e hc), upd_ne (fun z => n (by rw [z]; exact mP))]; exact e
  have fm : ∀ a o, F a = some o → ¬ W.mt a := fun a o e m => by rw [r.nmut a m] at e; cases e
  have th : ∀ a, H a ≠ none → H1 a ≠ none := fun a n => by
    rw [h]
    by_cases e : a = c
    · rw [e, upd_same]; simp
    · rw [upd_ne e]
      by_cases e2 : a = P
      · rw [e2, upd_same]; simp
      · rw [upd_ne e2]; exact n
  refine ⟨⟨fun a o e n => at_ a o (r.keep a o e n) n, fun a o e => (r.sub a o e).keep fun u z => at_ a u z (fm a o e), r.nmut, r.old, r.new, ?_, r.m0, r.len, fun i d e => ?_, r.sep, fun a o φ fd c2 e1 e2 e3 => ?_⟩, ⟨Le.refl _, fun a o e => .inl e, th⟩⟩
  · rw [h] at hT ⊢
    exact W.invE H st P q ps c r.inv hP hc hT
  · obtain ⟨v, e1, e2⟩ := r.slot i d e
    refine ⟨v, e1, ?_⟩
    split
    · rename_i oi
      rw [if_pos oi] at e2
      have nm : ∀ p, g.H0 p = none → ¬ W.mt p := fun p z m => r.m0 p m z
      cases d with
      | lst ds => obtain ⟨p, vs, f1, f2, f3, f4, f5⟩ := e2; exact ⟨p, vs, f1, at_ _ _ f2 (nm p f4), f3, f4, f5⟩
      | dK ds => obtain ⟨p, vs, f1, f2, f3, f4, f5⟩ := e2; exact ⟨p, vs, f1, at_ _ _ f2 (nm p f4), f3, f4, f5⟩
      | dT ds => obtain ⟨p, vs, f1, f2, f3, f4, f5⟩ := e2; exact ⟨p, vs, f1, at_ _ _ f2 (nm p f4), f3, f4, f5⟩
      | _ => exact e2
    · rename_i oi
      rw [if_neg oi] at e2
      exact e2
  · have z := r.tb a o φ fd c2 e1 e2 e3
    obtain ⟨ps0, hP0, _⟩ := W.invT H st r.inv _ hP
    rw [h, upd_ne (ne_of_none z hc), upd_ne (fun e => by rw [e, hP0] at z; exact LamX.codeO_ne ps0 (Option.some.inj z).symm)]
    exact z
/-- an error's dict is known -/
theorem GR.knowX {W : Wd} {g : Gh} {Ω : Nat → Bool} {σ : L2.St} {H : Hp} {env : Env} {F : Hp} {st : DS} {p : Addr} {fs : List (Str × V)} (r : GR W g Ω σ H env F st) (hp : H p = some (.xd fs)) (h0 : g.H0 p = none) (n : ∀ i d, Ω i = true → lk env i = some d → isM d = true → σ[i]? ≠ some (some (.ref p))) :
    ∃ F', GR W g Ω σ H env F' st ∧ Le F F' ∧ F' p = some (.xd fs) ∧ ∀ a o, F' a = some o → F a = some o ∨ a = p := by
  cases q : F p with
  | none =>
    refine ⟨upd F p (.xd fs), r.know hp q h0 n, fun a u h => by rw [L2.upd_ne (ne_of_none h q)]; exact h, L2.upd_same, fun a o h => ?_⟩
    by_cases e : a = p
    · exact .inr e
    · rw [L2.upd_ne e] at h; exact .inl h
  | some o =>
    have z := r.sub p o q
    have e : o = .xd fs := by
      rcases z with z | ⟨_, ob, z⟩ <;> rw [hp] at z <;> cases z
      rfl
    subst e
    exact ⟨F, r, Le.refl F, q, fun a o h => .inl h⟩
/-- a caught body, run in the state of its maker -/
theorem caught_go {W : Wd} {g : Gh} {Ω : Nat → Bool} {K : PySem.W.Frag} {CS : Addr} {σ : L2.St} {H H1 : Hp} {env : Env} {F : Hp} {st : DS} {Q : VK} {fe : Fe} {caps : List Nat} (gr : GR W g Ω σ H env F st) (gr1 : GR W g Ω σ H1 env F st) (fx1 : Fx H F H1 F) (hcap : ∀ i ∈ caps, Ω i = false)
    (hx : ∀ c cls, W.exA c cls → PySem.W.exmOne K cls (.ref CS) = some true) (z : Wn (PstE W g Ω .rep σ H F env Q) (Lets W g) (catchR (fe (keepE caps 0 env) st))) :
    tE W ⟨H1, F, wCg K CS Q⟩ (fun _ => false) .rep fe σ H1 (fun _ H' => Q .non H') := by
  have gl : GR W ⟨H1, F, wCg K CS Q⟩ (fun _ => false) σ H1 (keepE caps 0 env) F st := by
    refine ⟨fun a o e _ => e, gr1.sub, gr1.nmut, Le.refl _, fun a o e => .inl e, gr1.inv, fun a m => W.there H1 st a gr1.inv m, by rw [keep_len]; exact gr1.len, fun i d e => ?_, (fun i j v di dj oi => by cases oi), gr1.tb⟩
    obtain ⟨e1, e2⟩ := lk_keep e
    obtain ⟨v, e3, e4⟩ := gr1.slot i d e1
    rw [Nat.zero_add] at e2
    rw [if_neg (by rw [hcap i (List.contains_iff_mem.mp e2)]; decide)] at e4
    exact ⟨v, e3, e4⟩
  refine ⟨keepE caps 0 env, F, st, gl, ?_⟩
  have z : Wn (PstE W g Ω .rep σ H F env Q) (Lets W g) (catchR (fe (keepE caps 0 env) st)) := z
  cases q : fe (keepE caps 0 env) st with
  | stuck => rw [q] at z; exact z
  | ok d st' =>
    rw [q] at z
    intro v H2 F2 g2 fx2 _
    have f2 := g2.fin
    have f2' : Fin W ⟨H1, F, g.E0⟩ H2 F2 st' := ⟨f2.keep, f2.sub, f2.nmut, f2.old, f2.new, f2.inv, f2.tb⟩
    exact z .non H2 F2 (gr1.back f2') (fx1.trans fx2) .non
  | raise c fs st' =>
    rw [q] at z
    intro cls dx H2 ⟨tb2, ex, kp, iv, F2, a1, a2, a3, a4, a5⟩
    refine ⟨hx c cls ex, fun a na => ?_⟩
    have f2' : Fin W ⟨H1, F, g.E0⟩ H2 F2 st' := ⟨kp, a1.1, a2, a3, a4, iv, a1.2⟩
    have g3 := gr1.back f2'
    have fx3 := fx1.trans (f2'.fx st gr1.inv)
    cases fs with
    | nil =>
      cases dx with
      | none =>
        have g4 := g3.allocK (o := ExcT cls none a) na (fun ps z => by unfold ExcT at z; cases z) (fun _ _ z => by unfold ExcT at z; cases z)
        exact z (.ref a) _ _ g4 (fx3.trans (Fx.allocK (g3.free na) na)) (.exc0 ex L2.upd_same)
      | some dd => exact a5.elim
    | cons x r =>
      cases r with
      | cons _ _ => cases dx <;> exact a5.elim
      | nil =>
        cases dx with
        | none => exact a5.elim
        | some dd =>
          obtain ⟨v, f, b1, b2, b3, b4⟩ := a5
          have b2 : H1 dd = none := b2
          have g0 : g.H0 dd = none := gr1.free0 b2
          obtain ⟨F3, g5, l5, k5, n5⟩ := g3.knowX b1 g0 (gr1.newOwn b2)
          have g4 := g5.allocK (o := ExcT cls (some dd) a) na (fun ps z => by unfold ExcT at z; cases z) (fun _ _ z => by unfold ExcT at z; cases z)
          have nd : dd ≠ a := ne_of_none b1 na
          have fa := g5.free na
          have l6 : Le F3 (upd F3 a (ExcT cls (some dd) a)) := fun b u h => by rw [L2.upd_ne (ne_of_none h fa)]; exact h
          refine z (.ref a) _ _ g4 ⟨(fx3.le.trans l5).trans l6, fun b u h => ?_, fun b h => ?_⟩ (.exc1 ex L2.upd_same (by rw [L2.upd_ne nd]; exact k5) b3 ((b4.mono l5).mono l6))
          · have na0 : H a = none := by
              cases qq : H a with
              | none => rfl
              | some u => exact absurd na (fx3.there a (by rw [qq]; simp))
            by_cases e : b = a
            · exact .inr (e ▸ na0)
            · rw [L2.upd_ne e] at h
              rcases n5 b u h with h | h
              · exact fx3.new b u h
              · right
                rw [h]
                cases qq : H dd with
                | none => rfl
                | some u => exact absurd b2 (fx1.there dd (by rw [qq]; simp))
          · by_cases e : b = a
            · rw [e, L2.upd_same]; simp
            · rw [L2.upd_ne e]; exact fx3.there b h
theorem snd_caught {W : Wd} {T : TB} {Gv : G} {k : Nat} {X : Cx} {g : Gh} {sc : Scope} (C : CtxE W T Gv k X g sc) {b : Bool} {pos p lp : Pos} {bd : Expr} {scope : Scope} {te : E} (hl : T.lam = true) (hg : glB sc "_law_caught" = true) (hs : LamX.lamSB sc scope = true)
    (hb : ∀ {X' : Cx} {g' : Gh}, CtxE W T.noLam Gv k X' g' scope → Snd W Gv X' g' false bd te) : Snd W Gv X g b (.Call (.Name "_law_caught" p) [.Lambda ⟨[], [], none, [], [], none, []⟩ bd scope lp] [] pos) (.caught (capsOf T.N scope) te) := by
  obtain ⟨hr2, c, P, gA, CS, st0, fd, h1, h2, h3, h4, G, hx⟩ := C.lamI hl
  refine .of_rep (fun Ω o => ?_) rfl
  have L : LamX.LamS X.env.scope scope := LamX.lamS_by (by rw [C.hsc]; exact hs)
  have cl : ∀ (A : Around) (outer : List PySem.Env) (s : Shared) (H : Hp) (E : XK) (f c' : Addr) (g' : Gh), g'.E0 = E → Room k (A.deeper (LamX.lamEnv X scope s.heap.objs.size f c')) → CtxE W T.noLam Gv k (LamX.lamCx X A outer s H E scope f c') g' scope := fun A outer s H E f c' g' he hr => by
    have tk : Takes (LamX.lamCx X A outer s H E scope f c') (fun cls d _ H => E cls d H) := takes_of rfl rfl rfl rfl
    exact { hN := C.hN, nd := C.nd, hsc := rfl, kind := L.kind, hK := C.hK, calm := rfl, room := hr, blt := C.blt, gcd := C.gcd, fns := C.fns, kfns := C.kfns, consts := C.consts, lamI := (fun z => nomatch (show false = true from z)), isc := C.isc, pass := by rw [he]; exact passes_call tk fun _ _ _ _ h => h, fld := C.fld, cloI := (fun z => nomatch (show false = true from z)) }
  refine PE.imp (pe_caught (T := W.tabs) (k := k) (params := ⟨[], [], none, [], [], none, []⟩) (t := fun E σ H Q => ∃ g' : { g' : Gh // g'.E0 = E }, tE W g'.1 (fun _ => false) .rep (evE Gv te) σ H Q) G (C.gl hg) h2 h1 h3 h4 hr2 L rfl (fun _ _ _ _ _ => rfl) fun A outer s H E f c' hr => PE.ex fun g' => (hb (cl A outer s H E f c' g'.1 g'.2 hr)).rep rfl fun _ _ => rfl) fun σ H Q ⟨env, F, st, gr, z⟩ => ?_
  refine ⟨W.invT H st gr.inv, fun H1 c' hH hT => ?_⟩
  obtain ⟨gr1, fx1⟩ := gr.lam h3 hH hT
  exact ⟨⟨⟨H1, F, wCg X.K CS Q⟩, rfl⟩, caught_go gr gr1 fx1 o hx z⟩
/-- x(y), y a lambda of this frame -/
theorem snd_cgv {W : Wd} {T : TB} {Gv : G} {k : Nat} {X : Cx} {g : Gh} {sc : Scope} (C : CtxE W T Gv k X g sc) {b : Bool} {pos p p2 : Pos} {y : Str} {i : Nat} (hl : T.lam = true) (hl2 : T.clo = true) (hg : glB sc "_law_caught" = true) (hv : visB sc y = true) (hok : okN y = true) (hi : ixOf T.N y = some i)
    (hb : ∀ {X' : Cx} {g' : Gh} {sc' : Scope} (m : Nat) (bd : Expr), CtxE W T.noLam Gv.nl k X' g' sc' → Snd W Gv.nl X' g' false bd (trE T.noLam m sc' false bd)) : Snd W Gv X g b (.Call (.Name "_law_caught" p) [.Name y p2] [] pos) (.cgv i T.lamv) := by
  obtain ⟨hr2, c, P, gA, CS, st0, fd, h1, h2, h3, h4, G, hx⟩ := C.lamI hl
  obtain ⟨c1, c2⟩ := C.cloI hl hl2
  obtain ⟨hd, hcd, _⟩ := okN_d hok
  refine .of_rep (fun Ω o => ?_) rfl
  refine PE.imp (pe_cgv G (C.gl hg) hr2 (C.ix hi) (C.vis hv) hd hcd) fun σ H Q ⟨env, F, st, gr, z⟩ => ?_
  have z : Wn (PstE W g Ω .rep σ H F env Q) (Lets W g) (match lk env i with
    | some (.clo t caps) => if caps.all T.lamv.contains then catchR (Gv.lam t (keepE caps 0 env) st) else .stuck
    | _ => .stuck) := z
  split at z
  case h_2 => exact z.elim
  rename_i t caps hl
  split at z
  case isFalse => exact z.elim
  rename_i hcs
  obtain ⟨v, e1, e2⟩ := gr.slot i _ hl
  rw [if_neg (by rw [o i List.mem_cons_self]; decide)] at e2
  cases e2 with
  | @clo f ob _ _ fF ca =>
  obtain ⟨bd, scope, pm, ctv, c', m, rfl, hls, rfl, rfl⟩ := (c1 _ _ _).mp ca
  have hcap : ∀ i ∈ capsOf T.N scope, Ω i = false := fun j hj => o j (List.mem_cons_of_mem _ (List.contains_iff_mem.mp (List.all_eq_true.mp hcs j hj)))
  have L : LamX.LamS X.env.scope scope := LamX.lamS_by (by rw [C.hsc]; exact hls)
  have cl : ∀ (A : Around) (outer : List PySem.Env) (s : Shared) (H : Hp) (E : XK) (f c' : Addr) (g' : Gh), g'.E0 = E → Room k (A.deeper (LamX.lamEnv X scope s.heap.objs.size f c')) → CtxE W T.noLam Gv.nl k (LamX.lamCx X A outer s H E scope f c') g' scope := fun A outer s H E f c' g' he hr => by
    have tk : Takes (LamX.lamCx X A outer s H E scope f c') (fun cls d _ H => E cls d H) := takes_of rfl rfl rfl rfl
    exact { hN := C.hN, nd := C.nd, hsc := rfl, kind := L.kind, hK := C.hK, calm := rfl, room := hr, blt := C.blt, gcd := C.gcd, fns := C.fns, kfns := C.kfns, consts := C.consts, lamI := (fun z => nomatch (show false = true from z)), isc := C.isc, pass := by rw [he]; exact passes_call tk fun _ _ _ _ h => h, fld := C.fld, cloI := (fun z => nomatch (show false = true from z)) }
  rw [c2] at z
  exact ⟨f, c', _, bd, scope, pm, ctv, _, fun E σ H Q => ∃ g' : { g' : Gh // g'.E0 = E }, tE W g'.1 (fun _ => false) .rep (evE Gv.nl (trE T.noLam m scope false bd)) σ H Q, e1, L, (gr.sub _ _ fF).plain rfl, gr.tb f _ _ _ c' fF rfl rfl, rfl,
    fun A outer s H E hr => PE.ex fun g' => (hb m bd (cl A outer s H E f c' g'.1 g'.2 hr)).rep rfl fun _ _ => rfl, ⟨⟨H, F, wCg X.K CS Q⟩, rfl⟩, caught_go gr gr (Fx.refl _ _) hcap hx z⟩
/-- a lambda as a value -/
theorem snd_lam {W : Wd} {T : TB} {Gv : G} {k : Nat} {X : Cx} {g : Gh} {sc : Scope} (C : CtxE W T Gv k X g sc) {b : Bool} {pos : Pos} {bd : Expr} {scope : Scope} {m : Nat} (hl : T.lam = true) (hl2 : T.clo = true) (hs : LamX.lamSB sc scope = true) :
    Snd W Gv X g b (.Lambda ⟨[], [], none, [], [], none, []⟩ bd scope pos) (.lam (trE T.noLam m scope false bd) (capsOf T.N scope)) := by
  obtain ⟨hr2, c, P, gA, CS, st0, fd, h1, h2, h3, h4, G, hx⟩ := C.lamI hl
  obtain ⟨c1, c2⟩ := C.cloI hl hl2
  refine .of_rep (fun Ω o => ?_) rfl
  have L : LamX.LamS X.env.scope scope := LamX.lamS_by (by rw [C.hsc]; exact hs)
  refine PE.imp (pe_mklam (T := W.tabs) h2 h1 h3 h4 L) fun σ H Q ⟨env, F, st, gr, z⟩ => ?_
  refine ⟨W.invT H st gr.inv, fun f c' pm ctv H1 hH hT hf hc => ?_⟩
  obtain ⟨gr1, fx1⟩ := gr.lam h3 hH hT
  have z : PstE W g Ω .rep σ H F env Q (.clo (trE T.noLam m scope false bd) (capsOf T.N scope)) st := z
  have tb : TbOk (upd H1 f (.frz (lamObj X.env.cells (X.env.qual ++ "<lambda>") bd scope pm c' ctv) lamU)) (upd F f (.frz (lamObj X.env.cells (X.env.qual ++ "<lambda>") bd scope pm c' ctv) lamU)) := fun a o φ fd c2 e1 e2 e3 => by
    by_cases e : a = f
    · rw [e, upd_same] at e1
      cases e1
      cases e2
      cases e3
      rw [upd_ne (ne_of_none hc hf)]
      exact hc
    · rw [upd_ne e] at e1
      have y := gr1.tb a o φ fd c2 e1 e2 e3
      rw [upd_ne (ne_of_none y hf)]
      exact y
  exact z (.ref f) _ _ (gr1.allocT (o := .frz (lamObj X.env.cells (X.env.qual ++ "<lambda>") bd scope pm c' ctv) lamU) hf (fun _ z => nomatch z) tb) (fx1.trans (Fx.allocK (gr1.free hf) hf)) (.clo upd_same ((c1 _ _ _).mpr ⟨bd, scope, pm, ctv, c', m, rfl, hs, rfl, rfl⟩))
/-- e.f of an error -/
def tFld (X : Cx) (n : Str) (te : TE) : TE := fun σ H Q => te σ H fun x H1 => ∃ (a C dd : Addr) (v : V), x = .ref a ∧ XfC X.K C ∧ PySem.W.findIn X.K (.ref C) n = some none ∧ H1 a = some (ExcT (.ref C) (some dd) a) ∧ H1 dd = some (.xd [(n, v)]) ∧ Q v H1
theorem pe_fld {X : Cx} {e : Expr} {te : TE} {pos : Pos} {n : Str} (he : PE X e te) (hb : attributeBase e n X.env (eval e X.env) = eval e X.env) : PE X (.Attribute e n pos) (tFld X n te) := by
  refine ⟨fun pins s σ H Q I h => ?_⟩
  refine attr_of hb (thn (he.run pins s σ H _ I h) fun u s1 hh => ?_)
  obtain ⟨x, H1, I1, rx, a, C, dd, v, rfl, T, hno, ha, hd, q⟩ := hh
  obtain rfl : u = Value.ref a := rx
  have xa : ObjOk X.prog X.w H1 s1.heap a (.ext fun h => ∃ (oe : Obj) (vs : Array Value), h.get? a = some oe ∧ L2.Zc (.ref C) (some dd) oe ∧ oe.data = .fields vs) := I1.hok a _ ha
  obtain ⟨⟨oe, vs, e1, hz, e4⟩, _⟩ := xa
  have xd : ObjOk X.prog X.w H1 s1.heap dd (.xd [(n, v)]) := I1.hok dd _ hd
  obtain ⟨mA, hns, hr⟩ := xd
  obtain ⟨od, ho, hl⟩ := lookIn_ns hns
  have hn := hr n
  rw [show ([(n, v)] : List (Str × V)).lookup n = some v by simp [List.lookup]] at hn
  obtain ⟨u, hu, ru⟩ := RelO.some_of (v := v) (o := mA n) hn
  have J : PySem.W.InstAt s1.heap a oe C (some od) := ⟨e1, hz.1, by unfold PySem.W.notCls; rw [e4], by rw [hz.2]; exact ho⟩
  exact HandSPX.exc_get I1.kIn J T.ga T.gg T.exC (PySem.W.findObj_own T.hdC hno rfl (by rw [hl, hu])) (handed_of ru) ⟨v, H1, I1.tok _, ru, q⟩
theorem snd_fld {W : Wd} {T : TB} {Gv : G} {k : Nat} {X : Cx} {g : Gh} {sc : Scope} (C : CtxE W T Gv k X g sc) {r : RE} (hr : SndR W Gv X g r) {b : Bool} {pos : Pos} {e : Expr} {n : Str} (hb : isBase e = true) : Snd W Gv X g b (.Attribute e n pos) (.fld (r true e) n) := by
  have hbase : attributeBase e n X.env (eval e X.env) = eval e X.env := by
    cases e <;> first | rfl | cases hb
  refine .of_rep (fun Ω o => ?_) rfl
  refine PE.imp (pe_fld ((hr true e).bor o) hbase) fun σ H Q ⟨env, F, st, gr, z⟩ => ?_
  have z : Wn _ _ ((evE Gv (r true e) env st).bind fun x st => ofO (fldD Gv x n) st) := z
  refine ⟨env, F, st, gr, z.bind.mono fun d st1 z v H1 F1 g1 fx1 l1 => ?_⟩
  obtain ⟨d2, e2, w⟩ := z.ofO
  have rc : RC W H1 F1 v d := by
    rcases l1 with l1 | ⟨i, oi, si, li⟩
    · exact RC.of_rep l1 g1.sub
    · obtain ⟨v', s1, l2⟩ := g1.slot i d li
      rw [si] at s1
      cases s1
      rw [if_pos oi] at l2
      exact RC.of_own l2 g1.sub
  cases d with
  | exc c fs =>
    have rc : Rep W F1 v (.exc c fs) := rc
    cases rc with
    | exc0 ex f => 
      unfold fldD at e2
      dsimp only at e2
      rw [List.zip_nil_right] at e2
      cases e2
    | @exc1 _ f a dd cls u x ex f1 f2 hf ru =>
      obtain ⟨Ca, rfl, x1, x2, x3⟩ := C.fld c cls f ex hf
      unfold fldD at e2
      dsimp only at e2
      rw [x3] at e2
      simp only [List.zip_cons_cons, List.zip_nil_right, List.lookup] at e2
      split at e2
      · rename_i en
        have en : n = f := by simpa using en
        subst en
        cases e2
        exact ⟨a, Ca, dd, u, rfl, x1, x2, (g1.sub _ _ f1).plain rfl, (g1.sub _ _ f2).plain rfl, w u H1 F1 g1 fx1 ru⟩
      · cases e2
  | _ => cases e2
theorem lamOf_some {as : List Expr} {ps : Arguments} {b : Expr} {s : Scope} (h : lamOf as = some (ps, b, s)) : ∃ lp, as = [.Lambda ps b s lp] := by
  unfold lamOf at h
  split at h
  · cases h; exact ⟨_, rfl⟩
  · cases h
theorem noPar_eq {ps : Arguments} (h : noPar ps = true) : ps = ⟨[], [], none, [], [], none, []⟩ := by
  unfold noPar at h
  split at h
  · rfl
  · cases h
theorem drTr_star (T : TB) (sc : Scope) (p : Expr) (q : Pos) : drTr T sc (.Starred p q) = none := by unfold drTr; split <;> rfl
theorem trE_star (T : TB) (n : Nat) (sc : Scope) (b : Bool) (p : Expr) (q : Pos) : trE T n sc b (.Starred p q) = .bad := by
  cases n with
  | zero => rfl
  | succ n => unfold trE; simp only [drTr_star]; rfl
/-! ### the draws -/
theorem drOf_some {T : TB} {sc : Scope} {o i : Expr} {k f : Nat} (h : drOf T sc o i = some (k, f)) : ∃ x p1 s j p2, o = .Name x p1 ∧ i = .Constant (.str s) j p2 ∧ visB sc x = true ∧ okN x = true ∧ ixOf T.N x = some k ∧
    ((s = "rest" ∧ f = 0) ∨ (s = "turn" ∧ f = 1) ∨ (s = "cells" ∧ f = 2) ∨ (s = "great" ∧ f = 3)) := by
  unfold drOf at h
  split at h
  · rename_i x p1 s j p2
    split at h
    case isFalse => cases h
    rename_i hv
    rw [Bool.and_eq_true] at hv
    split at h
    case h_2 => cases h
    rename_i k' hk
    refine ⟨x, p1, s, j, p2, rfl, rfl, hv.1, hv.2, ?_⟩
    split at h
    · rename_i e; cases h; exact ⟨hk, .inl ⟨e, rfl⟩⟩
    split at h
    · rename_i e; cases h; exact ⟨hk, .inr (.inl ⟨e, rfl⟩)⟩
    split at h
    · rename_i e; cases h; exact ⟨hk, .inr (.inr (.inl ⟨e, rfl⟩))⟩
    split at h
    · rename_i e; cases h; exact ⟨hk, .inr (.inr (.inr ⟨e, rfl⟩))⟩
    · cases h
  · cases h
theorem drName_of {s : Str} {f : Nat} (h : (s = "rest" ∧ f = 0) ∨ (s = "turn" ∧ f = 1) ∨ (s = "cells" ∧ f = 2) ∨ (s = "great" ∧ f = 3)) (hf : f ≤ 2) : s = drName f := by
  rcases h with ⟨a, b⟩ | ⟨a, b⟩ | ⟨a, b⟩ | ⟨a, b⟩
  · rw [a, b]; rfl
  · rw [a, b]; rfl
  · rw [a, b]; rfl
  · omega
theorem snd_dr {W : Wd} {T : TB} {Gv : G} {k : Nat} {X : Cx} {g : Gh} {sc : Scope} (C : CtxE W T Gv k X g sc) {e : Expr} {t : E} {b : Bool} (h : drTr T sc e = some t) : Snd W Gv X g b e t ∧ SndT W Gv X g e t := by
  have hu := C.hu
  unfold drTr at h
  split at h
  case isFalse => cases h
  split at h
  · rename_i o i p3
    split at h
    case h_2 => cases h
    rename_i kk f hd
    split at h
    case isFalse => cases h
    rename_i hf
    cases h
    obtain ⟨x, p1, s, j, p2, e1, e2, hv, hok, hk, hs⟩ := drOf_some hd
    subst e1 e2
    rw [drName_of hs hf]
    obtain ⟨hd1, hcd, _⟩ := okN_d hok
    have r : Snd W Gv X g b (.Subscript (.Name x p1) (.Constant (.str (drName f)) j p2) p3) (.dr kk f) := .of_rep (fun Ω o => se_dr hf (by omega) (pe_var (C.ix hk) (C.vis hv) hd1 hcd) (o kk (List.mem_singleton.mpr rfl))) rfl
    exact ⟨r, sndT_val r fun _ => rfl⟩
  · rename_i o i p3 p4 p5
    split at h
    case h_2 => cases h
    rename_i kk f hd
    split at h
    case isFalse => cases h
    rename_i hf
    cases h
    obtain ⟨x, p1, s, j, p2, e1, e2, hv, hok, hk, hs⟩ := drOf_some hd
    subst e1 e2
    have hs : s = "great" := by
      rcases hs with ⟨a, b⟩ | ⟨a, b⟩ | ⟨a, b⟩ | ⟨a, b⟩ <;> first | exact a | omega
    subst hs
    obtain ⟨hd1, hcd, _⟩ := okN_d hok
    exact ⟨.of_rep (fun Ω o => se_gne C.hK (by omega) (pe_var (C.ix hk) (C.vis hv) hd1 hcd) (o kk (List.mem_singleton.mpr rfl))) rfl, fun Ω o => st_gne C.hK (by omega) (pe_var (C.ix hk) (C.vis hv) hd1 hcd) (o kk (List.mem_singleton.mpr rfl))⟩
  · rename_i o i p3 m ap j2 p4 cp
    split at h
    case h_2 => cases h
    rename_i kk f hd
    split at h
    case isFalse => cases h
    rename_i hf
    cases h
    obtain ⟨hf, hm, hl⟩ := hf
    obtain ⟨x, p1, s, j, p2, e1, e2, hv, hok, hk, hs⟩ := drOf_some hd
    subst e1 e2 hm
    have hs : s = "great" := by
      rcases hs with ⟨a, b⟩ | ⟨a, b⟩ | ⟨a, b⟩ | ⟨a, b⟩ <;> first | exact a | omega
    subst hs
    obtain ⟨hd1, hcd, _⟩ := okN_d hok
    have r : Snd W Gv X g b (.Call (.Attribute (drE x "great" j p1 p2 p3) "pop" ap) [.Constant (.int 0) j2 p4] [] cp) (.popg kk) := .of_rep (fun Ω o => se_popg (by omega) (pe_var (C.ix hk) (C.vis hv) hd1 hcd) (o kk (List.mem_singleton.mpr rfl)) hl) rfl
    exact ⟨r, sndT_val r fun _ => rfl⟩
  · cases h
/-- THE THEOREM of expressions: the tree computes what the expression does, as a value and as a test -/
theorem snd_eA {W : Wd} {Gv : G} {k : Nat} {lm : Bool} (hc : lm = true → ∀ {X' : Cx} {g' : Gh} {T : TB} {sc' : Scope} (m : Nat) (bd : Expr), CtxE W T.noLam Gv.nl k X' g' sc' → Snd W Gv.nl X' g' false bd (trE T.noLam m sc' false bd)) :
    ∀ (n : Nat) {T : TB} {X : Cx} {g : Gh} {sc : Scope}, (T.lam = true → lm = true) → CtxE W T Gv k X g sc → SndR W Gv X g (trE T n sc) ∧ ∀ b e, SndT W Gv X g e (trE T n sc b e)
  | 0, T, X, g, sc, hlm, C => ⟨fun b e => Snd.bad, fun b e Ω o => ST.congr ST.stuck rfl⟩
  | n + 1, T, X, g, sc, hlm, C => by
    obtain ⟨hr, ht⟩ := snd_eA hc n hlm C
    have nl : T.noLam.lam = true → lm = true := fun z => nomatch (show false = true from z)
    have blk : ∀ scope : Scope, ∀ (g' : GB) (s : Shared) (H : Hp) (Ca : Addr) (cl : List (Str × Addr)) (fp : List Addr), CtxE W T.noLam Gv k (X.blk s H scope (compEnvC scope cl Ca X.env) fp) g'.1 (relS scope sc) →
        SndR W Gv (X.blk s H scope (compEnvC scope cl Ca X.env) fp) g'.1 (trE T.noLam n (relS scope sc)) ∧ ∀ b e, SndT W Gv (X.blk s H scope (compEnvC scope cl Ca X.env) fp) g'.1 e (trE T.noLam n (relS scope sc) b e) := fun scope g' s H Ca cl fp C' => snd_eA hc n nl C'
    have hE : SndR W Gv X g (trE T (n + 1) sc) := fun b e => by
      show Snd W Gv X g b e (match drTr T sc e with | some t => t | none => trE0 T (fun T sc b e => trE T n sc b e) sc b e)
      split
      · rename_i t ht; exact (snd_dr C ht).1
      cases e with
      | Constant c j p => exact snd_c
      | Name x p => exact snd_n C
      | Tuple es j p => exact snd_tup hr (trE_star T n sc false)
      | List es p => exact snd_lst hr (trE_star T n sc false)
      | BinOp a o c p => exact snd_bin C hr
      | UnaryOp o a p => exact snd_un hr
      | Compare a ops cs p => exact snd_cmp C hr
      | BoolOp o es p =>
        show Snd W Gv X g b _ (if 2 ≤ es.length then trBool (trE T n sc) o es else .bad)
        split
        · rename_i hl
          refine Snd.of_rep (fun Ω ov => snd_bool hr Ω ov) ?_
          match es, hl with
          | _ :: _ :: _, _ => cases o <;> rfl
        · exact Snd.bad
      | IfExp c a d p => exact snd_ite (ht true c) (hr b a) (hr b d)
      | Subscript a i p => exact snd_sub C hr
      | Dict ks vs p =>
        match ks, vs with
        | [], [] => exact .of_own fun Ω o => se_dnew
        | [], _ :: _ => exact Snd.bad
        | _ :: _, _ => exact Snd.bad
      | Call f as kws p =>
        show Snd W Gv X g b _ (match lamOf as with | some (ps, bd, scope) => if isCg sc f kws && T.lam && LamX.lamSB sc scope && noPar ps then .caught (capsOf T.N scope) (trE T.noLam n scope false bd) else .bad | none => match cgvOf T sc f as kws with | some i => .cgv i T.lamv | none => trCall T (trE T n sc) sc f as kws p)
        split
        · rename_i ps bd scope hl
          split
          case isFalse => exact Snd.bad
          rename_i hh
          simp only [Bool.and_eq_true] at hh
          obtain ⟨⟨⟨h1, h2⟩, h3⟩, h4⟩ := hh
          obtain ⟨lp, e⟩ := lamOf_some hl
          have e2 := noPar_eq h4
          subst e e2
          unfold isCg at h1
          split at h1
          · rename_i x px
            simp only [Bool.and_eq_true, decide_eq_true_eq] at h1
            obtain ⟨⟨e3, h5⟩, h6⟩ := h1
            have e4 : kws = [] := by cases kws with | nil => rfl | cons _ _ => cases h6
            subst e3 e4
            exact snd_caught C h2 h5 h3 fun C' => (snd_eA hc n nl C').1 false bd
          · cases h1
        split
        · rename_i i hi
          unfold cgvOf at hi
          split at hi
          case h_2 => cases hi
          rename_i y p2
          split at hi
          case isFalse => cases hi
          rename_i hh
          simp only [Bool.and_eq_true] at hh
          obtain ⟨⟨⟨⟨h1, h2⟩, h3⟩, h4⟩, h7⟩ := hh
          unfold isCg at h1
          split at h1
          · rename_i x px
            simp only [Bool.and_eq_true, decide_eq_true_eq] at h1
            obtain ⟨⟨e3, h5⟩, h6⟩ := h1
            have e4 : kws = [] := by cases kws with | nil => rfl | cons _ _ => cases h6
            subst e3 e4
            exact snd_cgv C h2 h3 h5 h4 h7 hi (hc (hlm h2))
          · cases h1
        · exact snd_call C hr (trE_star T n sc false)
      | Lambda ps bd scope p =>
        show Snd W Gv X g b _ (if T.lam && T.clo && LamX.lamSB sc scope && noPar ps then .lam (trE T.noLam n scope false bd) (capsOf T.N scope) else .bad)
        split
        case isFalse => exact Snd.bad
        rename_i hh
        simp only [Bool.and_eq_true] at hh
        obtain ⟨⟨⟨h1, h2⟩, h3⟩, h4⟩ := hh
        have e := noPar_eq h4
        subst e
        exact snd_lam C h1 h2 h3
      | Attribute o n2 p =>
        show Snd W Gv X g b _ (if isBase o then .fld (trE T n sc true o) n2 else .bad)
        split
        · rename_i hb
          exact snd_fld C hr hb
        · exact Snd.bad
      | ListComp elt gens scope p => exact snd_comp C hr (blk scope)
      | _ => exact Snd.bad
    refine ⟨hE, fun b e => ?_⟩
    have hV := hE b e
    change Snd W Gv X g b e (match drTr T sc e with | some t => t | none => trE0 T (fun T sc b e => trE T n sc b e) sc b e) at hV
    show SndT W Gv X g e (match drTr T sc e with | some t => t | none => trE0 T (fun T sc b e => trE T n sc b e) sc b e)
    cases hd : drTr T sc e with
    | some t => exact (snd_dr (b := b) C hd).2
    | none =>
    rw [hd] at hV
    cases e with
    | UnaryOp o a p =>
      cases o with
      | Not => exact sndT_not (ht true a)
      | _ => exact sndT_val hV fun _ => rfl
    | Compare a ops cs p => exact sndT_cmp C hr
    | BoolOp o es p =>
      show SndT W Gv X g _ (if 2 ≤ es.length then trBool (trE T n sc) o es else .bad)
      split
      · exact fun Ω ov => (sndT_bool ht Ω ov).pt
      · exact fun Ω o => ST.congr ST.stuck rfl
    | IfExp c a d p => exact sndT_ite (ht true c) (ht b a) (ht b d)
    | _ => exact sndT_val hV fun _ => rfl
theorem snd_e {W : Wd} {Gv : G} {k : Nat} (n : Nat) {T : TB} {X : Cx} {g : Gh} {sc : Scope} (C : CtxE W T Gv k X g sc) : SndR W Gv X g (trE T n sc) ∧ ∀ b e, SndT W Gv X g e (trE T n sc b e) :=
  snd_eA (lm := true) (fun _ {X' g' T' sc'} m bd C' => (snd_eA (lm := false) (fun z => nomatch z) m (fun z => nomatch (show false = true from z)) C').1 false bd) n (fun _ => rfl) C
end Ev
/-! Ev21: the compact tree of a statement does what the statement does. -/
namespace Ev
open PySem PySem.Spec PyProof.Rows L2
/-- an error class without a body of its own -/
def ExAt (W : Wd) (X : Cx) (x : Str) : Prop := ∃ (Ca : Addr) (B newId initId : String) (bmB : List Value), ExcBaseFacts B newId initId bmB ∧ PySem.W.excIn X.K Ca bmB newId = true ∧ X.mg x = some (.ref Ca) ∧ PySem.W.keepIn X.K (.ref Ca) = true ∧
  PySem.W.subIn X.K (.ref Ca) (.type "BaseException") = some true ∧ PySem.W.typeIn X.K (.ref Ca) = some (.type "type") ∧ W.exA x (.ref Ca)
/-- C(e), C a class with one field: its dict stands as an error's dict -/
def tFx (Ca : Addr) (f : Str) (ta : TE) : L2.St → Hp → XK → Prop := fun σ H Q => ta σ H fun v H1 => ∀ d, H1 d = none → Q (.ref Ca) (some d) (upd H1 d (.xd [(f, v)]))
def FExAt (W : Wd) (X : Cx) (x : Str) : Prop := ∃ (Ca : Addr) (f : Str), W.exA x (.ref Ca) ∧ W.exF x f ∧ ∀ (a : Expr) (p p3 : Pos) (ta : TE), PE X a ta → notStar a = true → Gl X x → PMk X (.Call (.Name x p) [a] [] p3) (tFx Ca f ta)
/-- the context of a def's body -/
structure CtxS (W : Wd) (T : TB) (Gv : G) (k : Nat) (X : Cx) (g : Gh) (sc : Scope) : Prop extends CtxE W T Gv k X g sc where
  hfn : ∀ x, X.fn x = true
  own : PassesOwn (model X.prog X.w) X.A X.env X.xe
  takes : Takes X (fun cls d _ H => g.E0 cls d H)
  exs : ∀ x, T.excs.contains x = true → ExAt W X x
  fexs : ∀ x, T.fexcs.contains x = true → FExAt W X x
section
variable {W : Wd} {T : TB} {Gv : G} {k : Nat} {X : Cx} {g : Gh} {sc : Scope} {r : RE} {pos : Pos}
abbrev SndS (W : Wd) (GG : G) (X : Cx) (g : Gh) (s : Stmt) (t : S) : Prop := SS W X g s (evS GG t)
theorem SndS.bad {s : Stmt} : SndS W Gv X g s .bad := SS.stuck fun _ _ => rfl
theorem sndSs (hs : ∀ s, SndS W Gv X g s (f s)) : ∀ ss : List Stmt, SSs W X g ss (evSs Gv (toSs (ss.map f)))
  | [] => SSs.congr ss_nil fun _ _ => rfl
  | s :: ss => SSs.congr (ss_cons (hs s) (sndSs hs ss)) fun _ _ => rfl
theorem lc_sw {v : Expr} (h : isLc v = false) (t : Option Expr) (l : Nat) (env : PySem.Env) : swapsWith v t l env = pure false := by
  cases v <;> first | rfl | cases h

/-! ### x = e -/
theorem trE_lc (T : TB) (n : Nat) (sc : Scope) (b : Bool) (elt : Expr) (gens : List Comprehension) (scope : Scope) (p : Pos) : trE T (n + 1) sc b (.ListComp elt gens scope p) = trComp T (trE T n sc) (trE T.noLam n (relS scope sc)) sc scope elt gens := by
  have h : drTr T sc (.ListComp elt gens scope p) = none := by unfold drTr; split <;> rfl
  rw [trE, h]
  rfl
theorem trE_sc (T : TB) (n : Nat) (sc : Scope) (b : Bool) (elt : Expr) (gens : List Comprehension) (scope : Scope) (p : Pos) : trE T n sc b (.SetComp elt gens scope p) = .bad := by
  have h : drTr T sc (.SetComp elt gens scope p) = none := by unfold drTr; split <;> rfl
  cases n with
  | zero => rfl
  | succ n => rw [trE, h]; rfl
theorem trE_dc (T : TB) (n : Nat) (sc : Scope) (b : Bool) (k v : Expr) (gens : List Comprehension) (scope : Scope) (p : Pos) : trE T n sc b (.DictComp k v gens scope p) = .bad := by
  have h : drTr T sc (.DictComp k v gens scope p) = none := by unfold drTr; split <;> rfl
  cases n with
  | zero => rfl
  | succ n => rw [trE, h]; rfl
theorem swB_sw {y : Str} {py : Pos} {l : Nat} {elt : Expr} {gens : List Comprehension} {scope : Scope} {p : Pos} (C : CtxE W T Gv k X g sc) : swapsWith (.ListComp elt gens scope p) (some (.Name y py)) l X.env = pure (swB sc y py (.ListComp elt gens scope p)) := by
  have hb : X.env.blockKind = .function := by unfold Env.blockKind; rw [C.hsc, C.kind]; rfl
  have hk : X.env.kindOf y = sc.names.lookup y := by unfold Env.kindOf; rw [C.hsc]
  unfold swapsWith swB
  simp only [hb, hk, Expr.pos]
  congr 1
  have e1 : (ScopeKind.function == ScopeKind.function) = true := rfl
  have e2 : (sc.names.lookup y == some NameKind.local) = decide (sc.names.lookup y = some .local) := by
    cases h : decide (sc.names.lookup y = some .local) with
    | true => rw [of_decide_eq_true h]; rfl
    | false =>
      have h := of_decide_eq_false h
      cases q : sc.names.lookup y == some NameKind.local with
      | false => rfl
      | true => exact absurd (eq_of_beq q) h
  rw [e1, e2, Bool.true_and, Bool.and_comm (decide _) (py.line == p.line)]
theorem snd_set (C : CtxS W T Gv k X g sc) (n : Nat) {x : Str} {px : Pos} {v : Expr} : SndS W Gv X g (.Assign [.Name x px] v pos) (trSetN T (trE T n sc) sc x v) := by
  obtain ⟨hr, ht⟩ := snd_e (k := k) n C.toCtxE
  unfold trSetN
  split
  case isFalse => exact SndS.bad
  rename_i hx
  rw [Bool.and_eq_true] at hx
  split
  case h_2 => exact SndS.bad
  rename_i i hi
  have hN : X.N.Nodup := by rw [C.hN]; exact C.nd
  have hix := C.toCtxE.ix hi
  have hloc := C.toCtxE.loc hx.1
  -- the store of an expression's value
  have key : ∀ (Ω : Nat → Bool) (m : Md), (m = .own ∨ m = .rep) → (∀ j ∈ varsE (trE T n sc false v), Ω j = false) → SE W X g Ω m v (evE Gv (trE T n sc false v)) → (m = .own ∨ isLc v = false) → PS X (.Assign [.Name x px] v pos) (tAsg (tE W g Ω m (evE Gv (trE T n sc false v))) (gName i)) := fun Ω m hm o h hlc => by
    by_cases hc : isLc v = false
    · exact ps_set hN hix hloc h (lc_sw hc _ _ _) (.inl (C.hfn x))
    · have hm : m = .own := hlc.resolve_right hc
      subst hm
      cases v with
      | ListComp elt gens scope p =>
        cases hb : swB sc x px (.ListComp elt gens scope p) with
        | false => exact ps_set hN hix hloc h (by rw [swB_sw C.toCtxE, hb]) (.inl (C.hfn x))
        | true =>
          cases n with
          | zero => exact ⟨fun _ _ _ _ _ _ ⟨_, _, _, _, z⟩ => z.elim⟩
          | succ n =>
            rw [trE_lc] at o ⊢
            have st : ∀ {S : Stmt}, PS X S (tAsg (tE W g Ω .own (evE Gv .bad)) (gName i)) := ⟨fun _ _ _ _ _ _ ⟨_, _, _, _, z⟩ => z.elim⟩
            unfold trComp at o ⊢
            split at o
            case h_2 => exact st
            rename_i tg it ifs a
            dsimp only at o ⊢
            split at o
            case isFalse hh => rw [if_neg hh]; exact st
            rename_i hh
            rw [if_pos hh]
            simp only [Bool.and_eq_true, decide_eq_true_eq] at hh
            obtain ⟨⟨⟨⟨h1, h2⟩, h3⟩, h4⟩, h5⟩ := hh
            subst h1
            have ok := comp_ok C.toCtxE (snd_e n C.toCtxE).1 (fun g' s H Ca cl fp C' => snd_e n C') h2 h3 h4 h5 o
            have hyl : X.env.scope.names.lookup x = some .local := by
              unfold swB at hb
              simp only [Bool.and_eq_true, decide_eq_true_eq] at hb
              rw [C.hsc]; exact hb.1.2
            refine PS.imp (ps_setLc C.calm hN hix hyl (by rw [swB_sw C.toCtxE, hb]) ok.hi ok.ok ok.hg ok.ht ok.he ok.hs) fun De σ H z => ?_
            exact tlc_of ok.tg z
      | SetComp _ _ _ _ => exact ⟨fun _ _ _ _ _ _ ⟨_, _, _, _, z⟩ => by rw [trE_sc] at z; exact z.elim⟩
      | DictComp _ _ _ _ _ => exact ⟨fun _ _ _ _ _ _ ⟨_, _, _, _, z⟩ => by rw [trE_dc] at z; exact z.elim⟩
      | _ => exact absurd rfl hc
  by_cases hc : (T.M.contains i && freshE (trE T n sc false v)) = true
  · rw [hc]
    rw [Bool.and_eq_true] at hc
    exact SS.congr (ss_own (vs := varsE (trE T n sc false v)) fun Ω o => key Ω .own (.inl rfl) o ((hr false v).own hc.2 o) (.inl rfl)) fun s st => by obtain ⟨env, own⟩ := s; rfl
  · have hc : (T.M.contains i && freshE (trE T n sc false v)) = false := by simpa using hc
    rw [hc]
    refine SS.congr (ss_set (vs := varsE (trE T n sc false v)) fun Ω o => ?_) fun s st => by obtain ⟨env, own⟩ := s; rfl
    by_cases hl : isLc v = false
    · exact key Ω .rep (.inr rfl) o ((hr false v).rep rfl o) (.inr hl)
    · by_cases hf : freshE (trE T n sc false v) = true
      · exact PS.imp (key Ω .own (.inl rfl) o ((hr false v).own hf o) (.inl rfl)) fun De σ H z => tE_own_rep z
      · have e : trE T n sc false v = .bad := by
          cases n with
          | zero => rfl
          | succ n =>
            cases v with
            | ListComp elt gens scope p =>
              rw [trE_lc] at hf ⊢
              unfold trComp at hf ⊢
              split at hf
              · dsimp only at hf ⊢
                split at hf
                · exact absurd rfl hf
                · rename_i hh; rw [if_neg hh]
              · rfl
            | SetComp _ _ _ _ => exact trE_sc ..
            | DictComp _ _ _ _ _ => exact trE_dc ..
            | _ => exact absurd rfl hl
        rw [e]
        exact ⟨fun _ _ _ _ _ _ ⟨_, _, _, _, z⟩ => z.elim⟩
end
end Ev
/-! Ev22: the theorem of statements. -/
namespace Ev
open PySem PySem.Spec PyProof.Rows L2
section
variable {W : Wd} {T : TB} {Gv : G} {k : Nat} {X : Cx} {g : Gh} {sc : Scope} {r : RE} {pos : Pos}
/-! ### a, b = e -/
theorem swap_eq (C : CtxE W T Gv k X g sc) {ts vs : List Expr} {j j2 : Nat} {p p2 : Pos} (ha : vs.all (constantsAlone 8) = false ∨ swapN sc ts vs = none) : swappedStores [.Tuple ts j p] (.Tuple vs j2 p2) X.env = pure (swapN sc ts vs) := by
  have hb : X.env.blockKind = .function := by unfold Env.blockKind; rw [C.hsc, C.kind]; rfl
  have hk : ∀ y, X.env.kindOf y = sc.names.lookup y := fun y => by unfold Env.kindOf; rw [C.hsc]
  have e2 : (ScopeKind.function != ScopeKind.function) = false := rfl
  unfold swappedStores
  simp only [hb, hk, e2, Bool.or_false]
  split
  · rename_i h1
    exact (congrArg pure (show swapN sc ts vs = none by unfold swapN; exact if_pos h1)).symm
  rename_i h1
  split
  · rename_i h2
    exact (congrArg pure (show swapN sc ts vs = none by unfold swapN; rw [if_neg h1]; exact if_pos h2)).symm
  rename_i h2
  split
  · rename_i h3
    exact (congrArg pure (show swapN sc ts vs = none by unfold swapN; rw [if_neg h1]; exact (if_neg h2).trans (if_pos h3))).symm
  rename_i h3
  split
  · rename_i h4
    exact (congrArg pure (show swapN sc ts vs = none by unfold swapN; rw [if_neg h1]; exact (if_neg h2).trans ((if_neg h3).trans (if_pos h4)))).symm
  rename_i h4
  have e : swapN sc ts vs = some (swNames sc ts) := by unfold swapN; rw [if_neg h1]; exact (if_neg h2).trans ((if_neg h3).trans (if_neg h4))
  rw [e]
  rw [e] at ha
  have ha : vs.all (constantsAlone 8) = false := ha.resolve_right (fun z => nomatch z)
  rw [if_neg (by rw [ha]; decide)]
  rfl
theorem swN2 {x y : Str} {px py : Pos} {vs : List Expr} {names : List Str} (h : swapN sc [.Name x px, .Name y py] vs = some names) : names = [x, y] ∧ sc.names.lookup x = some .local ∧ sc.names.lookup y = some .local := by
  unfold swapN at h
  split at h
  · cases h
  split at h
  · cases h
  split at h
  · cases h
  rename_i h3
  split at h
  · cases h
  cases h
  have h3 : (swNames sc [.Name x px, .Name y py]).length = 2 := by
    rw [Bool.not_eq_true, Bool.or_eq_false_iff] at h3
    simpa using h3.1
  have e : swNames sc [.Name x px, .Name y py] = (if sc.names.lookup x == some .local && px.line == px.line then [x] else []) ++ (if sc.names.lookup y == some .local && py.line == px.line then [y] else []) := by
    unfold swNames
    by_cases c1 : (sc.names.lookup x == some .local && px.line == px.line) = true
    · by_cases c2 : (sc.names.lookup y == some .local && py.line == px.line) = true
      · rw [if_pos c1, if_pos c2]
        refine Eq.trans (List.filterMap_cons_some (b := x) ?_) (congrArg (x :: ·) (Eq.trans (List.filterMap_cons_some (b := y) ?_) rfl))
        · exact if_pos c1
        · exact if_pos c2
      · rw [if_pos c1, if_neg c2]
        refine Eq.trans (List.filterMap_cons_some (b := x) ?_) (congrArg (x :: ·) (Eq.trans (List.filterMap_cons_none ?_) rfl))
        · exact if_pos c1
        · exact if_neg c2
    · by_cases c2 : (sc.names.lookup y == some .local && py.line == px.line) = true
      · rw [if_neg c1, if_pos c2]
        refine Eq.trans (List.filterMap_cons_none ?_) (Eq.trans (List.filterMap_cons_some (b := y) ?_) rfl)
        · exact if_neg c1
        · exact if_pos c2
      · rw [if_neg c1, if_neg c2]
        refine Eq.trans (List.filterMap_cons_none ?_) (Eq.trans (List.filterMap_cons_none ?_) rfl)
        · exact if_neg c1
        · exact if_neg c2
  rw [e] at h3 ⊢
  split at h3 <;> rename_i c1
  · split at h3 <;> rename_i c2
    · rw [if_pos c1, if_pos c2]
      rw [Bool.and_eq_true] at c1 c2
      exact ⟨rfl, eq_of_beq c1.1, eq_of_beq c2.1⟩
    · simp at h3
  · split at h3 <;> simp at h3
theorem snd_asgT (C : CtxS W T Gv k X g sc) (n : Nat) {ts : List Expr} {j : Nat} {p : Pos} {v : Expr} (hl : isLc v = false) (hw : swappedStores [.Tuple ts j p] v X.env = pure none) :
    SndS W Gv X g (.Assign [.Tuple ts j p] v pos) (.asg (trTg T.N sc (.Tuple ts j p)) false (trE T n sc false v)) := by
  obtain ⟨hr, ht⟩ := snd_e (k := k) n C.toCtxE
  have h := ss_asg (pos := pos) (vs := varsE (trE T n sc false v)) (t := trTg T.N sc (.Tuple ts j p)) (fun Ω o => (hr false v).rep rfl o) (fun Ω o => snd_tg C.toCtxE (C.toCtxE.tg C.hfn) o) (show swapsWith v (some (.Tuple ts j p)) pos.line X.env = pure false from lc_sw hl _ _ _) hw rfl
  refine SS.congr h fun s st => ?_
  obtain ⟨env, own⟩ := s
  generalize ht : trTg T.N sc (.Tuple ts j p) = t
  cases t with
  | nm i =>
    simp only [trTg] at ht
    split at ht <;> cases ht
  | tp is => rfl
  | bad => rfl
theorem snd_par (C : CtxS W T Gv k X g sc) (n : Nat) {x y : Str} {px py : Pos} {j j2 : Nat} {p p2 : Pos} {a b : Expr} {i1 i2 : Nat} {names : List Str} (hs : swapN sc [.Name x px, .Name y py] [a, b] = some names) (hc : [a, b].all (constantsAlone 8) = false) (h1 : ixOf T.N x = some i1) (h2 : ixOf T.N y = some i2) (hne : (i1 == i2) = false) :
    SndS W Gv X g (.Assign [.Tuple [.Name x px, .Name y py] j p] (.Tuple [a, b] j2 p2) pos) (.par i1 i2 (trE T n sc false a) (trE T n sc false b)) := by
  obtain ⟨hr, ht⟩ := snd_e (k := k) n C.toCtxE
  have hw := swap_eq C.toCtxE (j := j) (j2 := j2) (p := p) (p2 := p2) (ts := [.Name x px, .Name y py]) (vs := [a, b]) (.inl hc)
  obtain ⟨e, hx, hy⟩ := swN2 hs
  rw [hs, e] at hw
  have hn : ∀ q, q ∈ [a, b] → notStar q = true := fun q hq => by
    cases q with
    | Starred q1 q2 =>
      refine absurd hs ?_
      have hany : ([a, b].any fun | .Starred .. => true | _ => false) = true := List.any_eq_true.mpr ⟨_, hq, rfl⟩
      unfold swapN
      intro z
      repeat' split at z
      all_goals first
        | (cases z; done)
        | exact absurd hany (by assumption)
        | (simp_all; done)
    | _ => rfl
  have s1 := star_of (hn a (by simp)) [b] X.env
  have s2 := star_of (hn b (by simp)) [] X.env
  refine SS.congr (ss_par (i := i1) (j := i2) (fun t ht => ps_par C.calm (by rw [C.hN]; exact C.nd) (C.toCtxE.ix h1) (C.toCtxE.ix h2) (by simpa using hne) (by rw [C.hsc]; exact hx) (by rw [C.hsc]; exact hy) ht hw rfl)
    (vs := varsE (trE T n sc false a) ++ varsE (trE T n sc false b)) fun Ω o => sa_cons ((hr false a).rep rfl (in_l o)) (sa_cons ((hr false b).rep rfl (in_r o)) sa_nil s2) s1) fun s st => ?_
  obtain ⟨env, own⟩ := s
  show (evE Gv (trE T n sc false a) env st).bind _ = Res.bind (Res.bind _ _) _
  rw [Res.bind_assoc]
  congr 1; funext d st1
  show _ = Res.bind (Res.bind (Res.bind _ _) _) _
  rw [Res.bind_assoc, Res.bind_assoc]
  rfl
/-- a, b = v -/
theorem snd_tupS (C : CtxS W T Gv k X g sc) (n : Nat) {ts : List Expr} {j : Nat} {p : Pos} {v : Expr} (hl : isLc v = false) : SndS W Gv X g (.Assign [.Tuple ts j p] v pos) (trTup T (trE T n sc) sc ts (.Tuple ts j p) v) := by
  unfold trTup
  split
  · rename_i vs j2 p2
    split
    · rename_i hs
      exact snd_asgT C n hl (by rw [swap_eq C.toCtxE (.inr hs), hs])
    · rename_i names hs
      split
      · rename_i x px y py a b
        split
        · exact SndS.bad
        rename_i hc
        split
        · rename_i i1 i2 h1 h2
          split
          · exact SndS.bad
          · rename_i hne
            exact snd_par C n hs (by simpa using hc) h1 h2 (by simpa using hne)
        · exact SndS.bad
      · exact SndS.bad
  · rename_i x px m ap cp
    split
    case isFalse => exact SndS.bad
    rename_i hh
    simp only [Bool.and_eq_true, decide_eq_true_eq] at hh
    obtain ⟨⟨⟨hm, hv⟩, hok⟩, hline⟩ := hh
    subst hm
    obtain ⟨hd, hcd, _⟩ := okN_d hok
    split
    · rename_i i hi
      refine SS.congr (ss_pop (i := i) (t := trTg T.N sc (.Tuple ts j p)) (fun u hu => ps_asg (pe_bm0 PySem.F.plainAttrs_list PySem.F.slot_list_pop PySem.F.type_list_pop mt_pop (pe_var (C.toCtxE.ix hi) (C.toCtxE.vis hv) hd hcd) rfl hline) hu rfl rfl rfl) (fun Ω o => snd_tg C.toCtxE (C.toCtxE.tg C.hfn) o)) fun s st => ?_
      obtain ⟨env, own⟩ := s
      rfl
    · exact SndS.bad
  · rename_i h1 h2
    refine snd_asgT C n hl ?_
    cases v <;> first | rfl | exact absurd rfl (h1 _ _ _)
theorem snd_asgS (C : CtxS W T Gv k X g sc) (n : Nat) {tg v : Expr} : SndS W Gv X g (.Assign [tg] v pos) (trAsg T (trE T n sc) sc tg v) := by
  unfold trAsg
  split
  · exact snd_set C n
  · split
    · exact SndS.bad
    · rename_i h
      exact snd_tupS C n (by simpa using h)
  · rename_i o i p
    split
    case isFalse => exact SndS.bad
    rename_i hh
    rw [Bool.and_eq_true] at hh
    split
    case h_2 => exact SndS.bad
    rename_i kk f hd
    split
    case isFalse => exact SndS.bad
    rename_i hf
    obtain ⟨x, p1, s, j, p2, e1, e2, hv, hok, hk, hs⟩ := drOf_some hd
    subst e1 e2
    rw [drName_of hs (by omega)]
    obtain ⟨hd1, hcd, _⟩ := okN_d hok
    obtain ⟨hr, ht⟩ := snd_e (k := k) n C.toCtxE
    have hu := C.toCtxE.hu
    refine SS.congr (ss_drSet (i := kk) (vs := varsE (trE T n sc false v)) hf (fun t ht => ps_dput (by omega) (pe_var (C.toCtxE.ix hk) (C.toCtxE.vis hv) hd1 hcd) pe_str ht (lc_sw (by simpa using hh.2) _ _ _)) fun Ω o => (hr false v).rep rfl o) fun s st => ?_
    obtain ⟨env, own⟩ := s
    rfl
  · exact SndS.bad

/-! ### expressions that are dropped -/
theorem few_of {a : Expr} {cp : Pos} (h : notStar a = true) (env : PySem.Env) : ((backTo cp (starEach [a] env)).all (fun x => !x.1) && (backToKw cp (keywordEach [] env)).all (fun x => x.1.isSome) && decide ([a].length + ([] : List Keyword).length + (if ([] : List Keyword).isEmpty then 0 else 1) < 30)) = true := by
  rw [star_of h]
  rfl
theorem snd_exp (C : CtxS W T Gv k X g sc) (n : Nat) {v : Expr} : SndS W Gv X g (.Expr v pos) (trExp T (trE T n sc) sc v) := by
  obtain ⟨hr, ht⟩ := snd_e (k := k) n C.toCtxE
  unfold trExp
  split
  · exact SS.congr ss_doc fun s st => rfl
  · rename_i x px m ap e cp
    split
    case isFalse => exact SndS.bad
    rename_i hh
    simp only [Bool.and_eq_true] at hh
    obtain ⟨⟨⟨hv, hok⟩, hline⟩, hn⟩ := hh
    obtain ⟨hd, hcd, _⟩ := okN_d hok
    have hs := star_of hn [] X.env
    have one : ∀ Ω, (∀ i ∈ varsE (trE T n sc false e), Ω i = false) → SA W X g Ω [e] fun env st => (evE Gv (trE T n sc false e) env st).bind fun d st => .ok [d] st := fun Ω o => SA.congr (sa_cons ((hr false e).rep rfl o) sa_nil hs) rfl
    split
    · rename_i i hi
      split
      · rename_i hm; subst hm
        refine SS.congr (ss_app (i := i) (fun t ha => ps_expr (pe_bm PySem.F.plainAttrs_list PySem.F.slot_list_append PySem.F.type_list_append mt_append (pe_var (C.toCtxE.ix hi) (C.toCtxE.vis hv) hd hcd) ha rfl (few_of hn _) hline hs rfl) rfl) one) fun s st => ?_
        obtain ⟨env, own⟩ := s
        rfl
      split
      · rename_i hm; subst hm
        refine SS.congr (ss_ext (i := i) (fun t ha => ps_expr (pe_bm PySem.F.plainAttrs_list PySem.F.slot_list_extend PySem.F.type_list_extend mt_extend (pe_var (C.toCtxE.ix hi) (C.toCtxE.vis hv) hd hcd) ha rfl (few_of hn _) hline hs rfl) rfl) one) fun s st => ?_
        obtain ⟨env, own⟩ := s
        rfl
      · exact SndS.bad
    · exact SndS.bad
  · split
    · exact SndS.bad
    · rename_i h
      refine SS.congr (ss_exp (vs := varsE (trE T n sc true v)) (fun Ω o => (hr true v).bor o) (lc_sw (by simpa using h) _ _ _)) fun s st => ?_
      obtain ⟨env, own⟩ := s
      rfl

/-! ### raise -/
theorem snd_raise0 (C : CtxS W T Gv k X g sc) {x m : Str} {j : Nat} {p p2 p3 : Pos} (hg : glB sc x = true) (hok : okN x = true) (h : T.excs.contains x = true) : SndS W Gv X g (.Raise (some (.Call (.Name x p) [.Constant (.str m) j p2] [] p3)) none pos) (.raise0 x) := by
  obtain ⟨Ca, B, newId, initId, bmB, F, h1, h2, h3, h4, h5, h6⟩ := C.exs x h
  obtain ⟨hd, _, _⟩ := okN_d hok
  exact PS.imp (ps_raise C.calm C.takes (pmk_own F h1 h2 h3 (raises_own h4 h5) (C.toCtxE.gl hg) hd)) fun De σ H ⟨env, own, F, st, gr, z⟩ => by
    have z : Lets W g x [] st := z
    exact z (.ref Ca) none H ⟨fun _ _ _ => trivial, h6, gr.keep, gr.inv, F, ⟨gr.sub, gr.tb⟩, gr.nmut, gr.old, gr.new, trivial⟩

theorem snd_raise (C : CtxS W T Gv k X g sc) {x : Str} {a : Expr} {ta : E} {p p3 : Pos} (ha : ∀ Ω, (∀ i ∈ varsE ta, Ω i = false) → SE W X g Ω .rep a (evE Gv ta)) (hn : notStar a = true) (hg : glB sc x = true) (h : T.fexcs.contains x = true) :
    SndS W Gv X g (.Raise (some (.Call (.Name x p) [a] [] p3)) none pos) (.raise x (.cons ta .nil)) := by
  obtain ⟨Ca, f, h1, h2, h3⟩ := C.fexs x h
  refine PS.imp (ps_raise C.calm C.takes (h3 a p p3 _ (PE.ex (ι := { Ω : Nat → Bool // ∀ i ∈ varsE ta, Ω i = false }) fun Ω => ha Ω.1 Ω.2) hn (C.toCtxE.gl hg))) fun De σ H ⟨env, own, F, st, gr, z⟩ => ?_
  obtain ⟨F1, g1, l1⟩ := gr.freeze (varsE ta)
  refine ⟨⟨Ωo (frz own (varsE ta)), fun i hi => frz_out hi⟩, env, F1, st, g1, ?_⟩
  have z : Wn _ _ (((evE Gv ta env st).bind fun d st => Res.bind (.ok [] st) fun ds st => .ok (d :: ds) st).bind fun ds st => .raise x ds st) := z
  rw [Res.bind_assoc] at z
  refine z.bind.mono fun d st1 z v H1 F2 g2 fx2 r2 a2 ha2 => ?_
  have z : Lets W g x [d] st1 := z
  have g3 := g2.alloc (o := .xd [(f, v)]) ha2
  exact z (.ref Ca) (some a2) _ ⟨fun _ _ _ => trivial, h1, g3.keep, g3.inv, F2, ⟨g3.sub, g3.tb⟩, g3.nmut, g3.old, g3.new, v, f, L2.upd_same, g2.free0 ha2, h2, r2⟩
/-! ### THE THEOREM of statements -/
theorem snd_s (C : CtxS W T Gv k X g sc) (m : Nat) : ∀ (n : Nat) (s : Stmt), SndS W Gv X g s (trS T m sc n s)
  | 0, s => SndS.bad
  | n + 1, s => by
    have ih := snd_s C m n
    obtain ⟨hr, ht⟩ := snd_e (k := k) m C.toCtxE
    unfold trS
    split
    · exact snd_exp C m
    · exact SS.congr ss_pass fun _ _ => rfl
    · exact SS.congr ss_cont fun _ _ => rfl
    · rename_i e p
      refine SS.congr (ss_ret (vs := varsE (trE T m sc false e)) fun Ω o => (hr false e).rep rfl o) fun s st => ?_
      obtain ⟨env, own⟩ := s
      rfl
    · exact SS.congr ss_retN fun _ _ => rfl
    · rename_i c a b p
      refine SS.congr (ss_if (vs := varsE (trE T m sc true c)) (fun Ω o => ht true c Ω o) (sndSs ih a) (sndSs ih b)) fun s st => ?_
      obtain ⟨env, own⟩ := s
      rfl
    · rename_i tg it b p
      split
      case isFalse => exact SndS.bad
      rename_i hs
      refine SS.congr (ss_for (vs := varsI (trI (trE T m sc) sc tg it)) C.own C.calm (fun Ω o => snd_i C.toCtxE hr Ω o) (fun Ω o => snd_tg C.toCtxE (C.toCtxE.tg C.hfn) o) (sndSs ih b) fun x => notSet_f hs _ x) fun s st => ?_
      obtain ⟨env, own⟩ := s
      rfl
    · rename_i c b p
      refine SS.congr (ss_while (vs := varsE (trE T m sc true c)) C.own (fun Ω o => ht true c Ω o) (sndSs ih b)) fun s st => ?_
      rfl
    · exact snd_asgS C m
    · rename_i e p
      unfold trRaise
      split
      · rename_i x p1 ms j p2 p3
        split
        · rename_i hh
          simp only [Bool.and_eq_true] at hh
          exact snd_raise0 C hh.1.1 hh.1.2 hh.2
        · split
          · rename_i hh
            simp only [Bool.and_eq_true] at hh
            exact snd_raise C (fun Ω _ => se_c pe_str fun F => .str ms) rfl hh.1.1 hh.2
          · exact SndS.bad
      · split
        · rename_i hh
          simp only [Bool.and_eq_true] at hh
          exact snd_raise C (fun Ω o => (hr false _).rep rfl o) hh.2 hh.1.1.1 hh.1.2
        · exact SndS.bad
      · exact SndS.bad
    · exact SndS.bad
theorem snd_body (C : CtxS W T Gv k X g sc) (ss : List Stmt) : SSs W X g ss (evSs Gv (trSs T sc ss)) := sndSs (snd_s C 60 60) ss
end
end Ev
/-! Ev23: a def keeps what its tree computes. -/
namespace Ev
open PySem PySem.Spec PyProof.Rows L2
/-- what holds of a text behind its top, at level k -/
structure Glb (W : Wd) (T : TB) (Gv : G) (k : Nat) (P : Program) (w : World) (K : PySem.W.Frag) (mg : Str → Option Value) (base : Heap) : Prop where
  hK : K = W.K
  blt : ∀ x ∈ bltNames, mg x = none
  gcd : T.gcd = true → mg "gcd" = some (.builtin "math.gcd")
  fns : ∀ (X : Cx), X.prog = P → X.w = w → X.K = K → X.mg = mg → X.base = base → (∀ x, T.fns.contains x = true → FnAt W T X k x (Gv.call x)) ∧ (∀ p ∈ T.kfns, FnAt W T X k p.1 (Gv.call p.1)) ∧
    (∀ x, T.consts.contains x = true → ∀ d, Gv.glob x = some d → ∃ v u, X.mg x = some u ∧ RelV v u ∧ ∀ F, Rep W F v d) ∧ (∀ x, (T.excs.contains x || T.fexcs.contains x) = true → IscAt W X Gv x) ∧ (∀ x, T.excs.contains x = true → ExAt W X x)
  cg : T.lam = true → ∃ (g CS : Addr) (st : Stmt) (fd : FuncData), CgDef K mg CS st g fd ∧ ∀ c cls, W.exA c cls → PySem.W.exmOne K cls (.ref CS) = some true
  fld : ∀ c cls f, W.exA c cls → W.exF c f → ∃ C : Addr, cls = .ref C ∧ XfC K C ∧ PySem.W.findIn K (.ref C) f = some none ∧ Gv.fields c = [f]
  fexs : ∀ (X : Cx), X.prog = P → X.w = w → X.K = K → X.mg = mg → X.base = base → X.calm = true → Room (k + 2) X.A → (∀ x, T.fexcs.contains x = true → FExAt W X x)
section
variable {W : Wd} {T : TB} {Gv : G} {k : Nat} {P : Program} {w : World} {K : PySem.W.Frag} {mg : Str → Option Value} {base : Heap}
/-- where a def's lambdas are noted -/
def LamAt (W : Wd) (base : Heap) (mg : Str → Option Value) (qual : Str) (cdv : Value) : Prop := ∃ c P : Addr, cdv = .ref c ∧ LamX.TabB base mg c P ∧ (P, qual ++ ".<locals>." ++ "<lambda>") ∈ W.tabs ∧ ∀ p ∈ W.tabs, p.1 = P → p.2 = qual ++ ".<locals>." ++ "<lambda>"
/-- the slots at a def's entry -/
def env0 (n : Nat) (ds : List D) : Env := ds.map some ++ List.replicate (n - ds.length) none
theorem lk_get : ∀ (env : Env) (i : Nat), lk env i = (env[i]?).bind id
  | [], i => by simp [lk]
  | d :: r, 0 => by simp [lk]
  | d :: r, i + 1 => by rw [lk, lk_get r i]; simp
theorem gr_start {N : List Str} {vs : List V} {ds : List D} {H F : Hp} {E : XK} {st : DS} (h1 : LeK F H) (h2 : ∀ a, W.mt a → F a = none) (h3 : W.inv H st) (h4 : TbOk H F) (r : Reps W F vs ds) : GR W ⟨H, F, E⟩ (Ωo []) (start N vs) H (env0 N.length ds) F st := by
  refine ⟨fun a o h _ => h, h1, h2, Le.refl _, fun a o h => .inl h, h3, fun a h => W.there H st a h3 h, ?_, fun i d h => ?_, (fun i j v di dj oi => by cases oi), h4⟩
  · unfold env0 L2.start
    rw [List.length_append, List.length_append, List.length_map, List.length_map, List.length_replicate, List.length_replicate, r.length]
  · rw [lk_get] at h
    unfold env0 at h
    by_cases hl : i < ds.length
    · rw [List.getElem?_append_left (by rw [List.length_map]; exact hl), List.getElem?_map] at h
      cases q : ds[i]? with
      | none => rw [q] at h; cases h
      | some d' =>
        rw [q] at h
        cases h
        obtain ⟨v, e, rv⟩ := r.get q
        refine ⟨v, ?_, ?_⟩
        · unfold L2.start
          rw [List.getElem?_append_left (by rw [List.length_map, r.length]; exact hl), List.getElem?_map, e]
          rfl
        · rw [if_neg (by simp [Ωo])]
          exact rv
    · rw [List.getElem?_append_right (by rw [List.length_map]; omega), List.getElem?_replicate] at h
      split at h <;> cases h
theorem ctx_def (B : Glb W T Gv k P w K mg base) {N ps : List Str} {qual : Str} {scope : Scope} {f : Addr} {cd : Value} {A : Around} {outer : List PySem.Env} {s : Shared} {H F : Hp} {E : XK} (hN : T.N = N) (S : FnScope N ps scope) (hl : T.lam = true → LamAt W base mg qual cd) (hr : Room (k + 2) (A.deeper (envOfC qual scope s.heap.objs.size f cd)))
    (hc : T.lam = true → T.clo = true → (∀ o t caps, W.cloA o t caps ↔ CloDef T scope (envOfC qual scope s.heap.objs.size f cd).cells ((envOfC qual scope s.heap.objs.size f cd).qual ++ "<lambda>") o t caps) ∧ Gv.lam = fun t env st => evE Gv.nl t env st) :
    CtxS W T Gv k (cxOf (L2.CX P w) P w K mg base N qual scope f cd A outer s H E) ⟨H, F, E⟩ scope := by
  have tk : Takes (cxOf (L2.CX P w) P w K mg base N qual scope f cd A outer s H E) (fun cls d _ H => E cls d H) := takes_of rfl rfl rfl rfl
  obtain ⟨f1, f2, f3, f4, f5⟩ := B.fns (cxOf (L2.CX P w) P w K mg base N qual scope f cd A outer s H E) rfl rfl rfl rfl rfl
  have hr0 : Room k (A.deeper (envOfC qual scope s.heap.objs.size f cd)) := hr.mono (Nat.le_add_right k 2)
  have hlam : T.lam = true → Room (k + 2) (A.deeper (envOfC qual scope s.heap.objs.size f cd)) ∧ ∃ (c P g CS : Addr) (st : Stmt) (fd : FuncData), cd = .ref c ∧ LamX.TabB base mg c P ∧ (P, qual ++ ".<locals>." ++ "<lambda>") ∈ W.tabs ∧ (∀ p ∈ W.tabs, p.1 = P → p.2 = qual ++ ".<locals>." ++ "<lambda>") ∧
    CgDef K mg CS st g fd ∧ ∀ c cls, W.exA c cls → PySem.W.exmOne K cls (.ref CS) = some true := fun z => by
    obtain ⟨c, P, e1, e2, e3, e4⟩ := hl z
    obtain ⟨g, CS, st, fd, G, hx⟩ := B.cg z
    exact ⟨hr, c, P, g, CS, st, fd, e1, e2, e3, e4, G, hx⟩
  have f6 := B.fexs (cxOf (L2.CX P w) P w K mg base N qual scope f cd A outer s H E) rfl rfl rfl rfl rfl rfl hr
  exact { hN := hN.symm, nd := by rw [hN]; exact S.nd, hsc := rfl, kind := S.kind, hK := B.hK, calm := rfl, room := hr0, lamI := hlam, blt := B.blt, gcd := B.gcd, fns := f1, kfns := f2, consts := f3, isc := f4, pass := passes_call tk fun _ _ _ _ h => h, hfn := fun _ => rfl, own := passes_of rfl, takes := tk, exs := f5, fexs := f6, fld := B.fld, cloI := hc }
/-- what a def's tree computes -/
noncomputable def callB (Gv : G) (n m : Nat) (b : Ss) (ds : List D) (st : DS) : Res D := if ds.length = n then evB Gv b (env0 m ds) st else .stuck
theorem fn_ok (B : Glb W T Gv k P w K mg base) {x qual : Str} {st : Stmt} {f : Addr} {oc : Value} {od an : Option Addr} {osl : Array (Option Value)} {kV doc pm cdv ct : Value} {N ps : List Str} {b : Ss}
    (lk : K.lookup f = some ⟨oc, od, .func (PySem.W.fnOf x qual (defArgs st) (defBody st) (defScope st) .none kV doc pm an cdv ct), osl⟩) (hcd : PySem.W.codeIn K cdv qual = true) (hl : T.lam = true → LamAt W base mg qual cdv)
    (S : FnScope N ps (defScope st)) (hN : T.N = N) (hcl : T.clo = false) (hb : trSs T (defScope st) (defBody st) = b) :
    FnOk P w K mg base (L2.CX P w) (k + 3) f (PySem.W.fnOf x qual (defArgs st) (defBody st) (defScope st) .none kV doc pm an cdv ct) ps (spF W (callB Gv ps.length N.length b)) := by
  have len : ∀ {ds : List D} {st0 : DS} {α : D → DS → Prop} {L : Str → List D → DS → Prop}, Wn α L (callB Gv ps.length N.length b ds st0) → ds.length = ps.length ∧ Wn α L (evB Gv b (env0 N.length ds) st0) := fun {ds st0 α L} z => by
    unfold callB at z
    split at z
    · rename_i h; exact ⟨h, z⟩
    · exact z.elim
  refine fn_of lk hcd S (fun vs H Q E h => ?_) fun A outer s H vs Q E hr h => ?_
  · obtain ⟨F1, st0, ds, _, _, _, r, z⟩ := h
    rw [r.length]
    exact (len z).1
  · obtain ⟨F1, st0, ds, h1, h2, ⟨h3, h4⟩, r, z⟩ := h
    have C : CtxS W T Gv k (cxOf (L2.CX P w) P w K mg base N qual (defScope st) f cdv A outer s H E) ⟨H, F1, E⟩ (defScope st) := ctx_def B hN S hl hr (fun _ z => by rw [hcl] at z; cases z)
    refine ⟨_, snd_body C (defBody st), env0 N.length ds, [], F1, st0, gr_start h1 h2 h3 h4 r, ?_⟩
    rw [hb]
    refine (len z).2.bind.mono fun ⟨s1, c⟩ st1 z => ?_
    cases c with
    | nx => exact fun σ' H' F' g' _ => z .non H' F' g'.fin .non
    | ct => exact z.elim
    | ret d => exact fun v H' F' f' _ r' => z v H' F' f' r'
/-! ### lambdas as values -/
def Wd.clo (W : Wd) (φ : Obj → E → List Nat → Prop) : Wd := { W with cloA := φ }
/-- calls take no lambdas; a lambda is called -/
def G.cl (g : G) : G := { g with call := (fun x ds st => if noClos ds then g.call x ds st else .stuck), lam := fun t env st => evE { g with call := (fun x ds st => if noClos ds then g.call x ds st else .stuck), lam := fun _ _ _ => .stuck } t env st }
theorem noCloK_map : ∀ kvs : List (Key × D), noCloK kvs = noClos (kvs.map (·.2))
  | [] => rfl
  | (_, d) :: r => by rw [noCloK, List.map_cons, noClos, noCloK_map r]
theorem noCloT_map : ∀ kvs : List (List Key × D), noCloT kvs = noClos (kvs.map (·.2))
  | [] => rfl
  | (_, d) :: r => by rw [noCloT, List.map_cons, noClos, noCloT_map r]
section
variable {φ : Obj → E → List Nat → Prop}
mutual
theorem Rep.up (h0 : ∀ o t c, ¬ W.cloA o t c) {F : Hp} : ∀ {v : V} {d : D}, Rep W F v d → Rep (W.clo φ) F v d
  | _, _, .non => .non
  | _, _, .bl b => .bl b
  | _, _, .int i => .int i
  | _, _, .str x => .str x
  | _, _, .tup h r => .tup h (Reps.up h0 r)
  | _, _, .lst h r => .lst h (Reps.up h0 r)
  | _, _, .scr h => .scr h
  | _, _, .dK h e r => .dK h e (Reps.up h0 r)
  | _, _, .dT h e r => .dT h e (Reps.up h0 r)
  | _, _, .fn h => .fn h
  | _, _, .drw h k => .drw h k
  | _, _, .clo _ r => (h0 _ _ _ r).elim
  | _, _, .exc0 h r => .exc0 h r
  | _, _, .exc1 h r s t u => .exc1 h r s t (Rep.up h0 u)
theorem Reps.up (h0 : ∀ o t c, ¬ W.cloA o t c) {F : Hp} : ∀ {vs : List V} {ds : List D}, Reps W F vs ds → Reps (W.clo φ) F vs ds
  | _, _, .nil => .nil
  | _, _, .cons h r => .cons (Rep.up h0 h) (Reps.up h0 r)
end
mutual
theorem Rep.down {F : Hp} : ∀ {v : V} {d : D}, Rep (W.clo φ) F v d → noClo d = true → Rep W F v d
  | _, _, .non, _ => .non
  | _, _, .bl b, _ => .bl b
  | _, _, .int i, _ => .int i
  | _, _, .str x, _ => .str x
  | _, _, .tup h r, n => .tup h (Reps.down r (by rw [noClo] at n; exact n))
  | _, _, .lst h r, n => .lst h (Reps.down r (by rw [noClo] at n; exact n))
  | _, _, .scr h, _ => .scr h
  | _, _, .dK h e r, n => .dK h e (Reps.down r (by rw [noClo, noCloK_map] at n; exact n))
  | _, _, .dT h e r, n => .dT h e (Reps.down r (by rw [noClo, noCloT_map] at n; exact n))
  | _, _, .fn h, _ => .fn h
  | _, _, .drw h k, _ => .drw h k
  | _, _, .clo _ r, n => by rw [noClo] at n; cases n
  | _, _, .exc0 h r, _ => .exc0 h r
  | _, _, .exc1 h r s t u, n => .exc1 h r s t (Rep.down u (by rw [noClo, noClos, Bool.and_eq_true] at n; exact n.1))
theorem Reps.down {F : Hp} : ∀ {vs : List V} {ds : List D}, Reps (W.clo φ) F vs ds → noClos ds = true → Reps W F vs ds
  | _, _, .nil, _ => .nil
  | _, _, .cons h r, n => .cons (Rep.down h (by rw [noClos, Bool.and_eq_true] at n; exact n.1)) (Reps.down r (by rw [noClos, Bool.and_eq_true] at n; exact n.2))
end
theorem Fin.dn {g : Gh} {H F : Hp} {st : DS} (f : Fin (W.clo φ) g H F st) : Fin W g H F st := ⟨f.keep, f.sub, f.nmut, f.old, f.new, f.inv, f.tb⟩
theorem Fin.upc {g : Gh} {H F : Hp} {st : DS} (f : Fin W g H F st) : Fin (W.clo φ) g H F st := ⟨f.keep, f.sub, f.nmut, f.old, f.new, f.inv, f.tb⟩
theorem RaiseP.upc (h0 : ∀ o t c, ¬ W.cloA o t c) {g : Gh} {c : Str} {fs : List D} {st : DS} {cls : Value} {dx : Option Addr} {H : Hp} (z : RaiseP W g c fs st cls dx H) : RaiseP (W.clo φ) g c fs st cls dx H := by
  obtain ⟨a1, a2, a3, a4, F, a5, a6, a7, a8, a9⟩ := z
  refine ⟨a1, a2, a3, a4, F, a5, a6, a7, a8, ?_⟩
  revert a9
  match fs, dx with
  | [], none => exact id
  | [], some _ => exact id
  | [x], none => exact id
  | [x], some a => exact fun ⟨v, f, e1, e2, e3, e4⟩ => ⟨v, f, e1, e2, e3, e4.up h0⟩
  | _ :: _ :: _, none => exact id
  | _ :: _ :: _, some _ => exact id
theorem RaiseP.dn {g : Gh} {c : Str} {fs : List D} {st : DS} {cls : Value} {dx : Option Addr} {H : Hp} (z : RaiseP (W.clo φ) g c fs st cls dx H) (n : noClos fs = true) : RaiseP W g c fs st cls dx H := by
  obtain ⟨a1, a2, a3, a4, F, a5, a6, a7, a8, a9⟩ := z
  refine ⟨a1, a2, a3, a4, F, a5, a6, a7, a8, ?_⟩
  revert a9 n
  match fs, dx with
  | [], none => exact fun _ => id
  | [], some _ => exact fun _ => id
  | [x], none => exact fun _ => id
  | [x], some a => exact fun n ⟨v, f, e1, e2, e3, e4⟩ => ⟨v, f, e1, e2, e3, e4.down (by rw [noClos, Bool.and_eq_true] at n; exact n.1)⟩
  | _ :: _ :: _, none => exact fun _ => id
  | _ :: _ :: _, some _ => exact fun _ => id
theorem spF_cl (h0 : ∀ o t c, ¬ W.cloA o t c) {call : List D → DS → Res D} {vs : List V} {H : Hp} {Q : VK} {E : XK} (z : spF (W.clo φ) (fun ds st => if noClos ds then call ds st else .stuck) vs H Q E) : spF W call vs H Q E := by
  obtain ⟨F, st, ds, h1, h2, h3, r, z⟩ := z
  dsimp only at z
  split at z
  case isFalse => exact z.elim
  rename_i n
  refine ⟨F, st, ds, h1, h2, h3, r.down n, ?_⟩
  cases q : call ds st with
  | ok d st2 => rw [q] at z; exact fun v H' F' f rv => z v H' F' f.upc (rv.up h0)
  | raise c fs st2 => rw [q] at z; exact fun cls dx H' y => z cls dx H' (y.upc h0)
  | stuck => rw [q] at z; exact z
theorem Glb.cl (B : Glb W T Gv k P w K mg base) (h0 : ∀ o t c, ¬ W.cloA o t c) : Glb (W.clo φ) T (G.cl Gv) k P w K mg base := by
  refine ⟨B.hK, B.blt, B.gcd, fun X e1 e2 e3 e4 e5 => ?_, B.cg, B.fld, fun X e1 e2 e3 e4 e5 e6 e7 => B.fexs X e1 e2 e3 e4 e5 e6 e7⟩
  obtain ⟨f1, f2, f3, f4, f5⟩ := B.fns X e1 e2 e3 e4 e5
  have up : ∀ {x : Str}, FnAt W T X k x (Gv.call x) → FnAt (W.clo φ) T X k x ((G.cl Gv).call x) := fun ⟨f, fd, ps, g1, g2, g3, g4, g5⟩ => ⟨f, fd, ps, g1, g2, g3.imp fun vs H Q E z => spF_cl h0 z, g4, g5⟩
  refine ⟨fun x hx => up (f1 x hx), fun p hp => up (f2 p hp), fun x hx d hd => ?_, f4, f5⟩
  obtain ⟨v, u, g1, g2, g3⟩ := f3 x hx d hd
  exact ⟨v, u, g1, g2, fun F => (g3 F).up h0⟩
end
theorem Wn.monoL {α : Type} {P : α → DS → Prop} {L L' : Str → List D → DS → Prop} {r : Res α} (w : Wn P L r) (h : ∀ c fs st, L c fs st → L' c fs st) : Wn P L' r := by
  cases r with
  | ok a st => exact w
  | raise c fs st => exact h _ _ _ w
  | stuck => exact w
/-- what leaves the frame has no lambda in it -/
def guardR : Res D → Res D
  | .ok d st => if noClo d then .ok d st else .stuck
  | .raise c fs st => if noClos fs then .raise c fs st else .stuck
  | .stuck => .stuck
/-- what a def's tree computes that makes lambdas as values -/
noncomputable def callC (Gv : G) (n m : Nat) (b : Ss) (ds : List D) (st : DS) : Res D := if ds.length = n then guardR (evB (G.cl Gv) b (env0 m ds) st) else .stuck
theorem fn_okC (B : Glb W T Gv k P w K mg base) (h0 : ∀ o t c, ¬ W.cloA o t c) {x qual : Str} {st : Stmt} {f : Addr} {oc : Value} {od an : Option Addr} {osl : Array (Option Value)} {kV doc pm cdv ct : Value} {N ps : List Str} {b : Ss}
    (lk : K.lookup f = some ⟨oc, od, .func (PySem.W.fnOf x qual (defArgs st) (defBody st) (defScope st) .none kV doc pm an cdv ct), osl⟩) (hcd : PySem.W.codeIn K cdv qual = true) (hl : T.lam = true → LamAt W base mg qual cdv)
    (S : FnScope N ps (defScope st)) (hN : T.N = N) (hb : trSs T (defScope st) (defBody st) = b) :
    FnOk P w K mg base (L2.CX P w) (k + 3) f (PySem.W.fnOf x qual (defArgs st) (defBody st) (defScope st) .none kV doc pm an cdv ct) ps (spF W (callC Gv ps.length N.length b)) := by
  have len : ∀ {ds : List D} {st0 : DS} {α : D → DS → Prop} {L : Str → List D → DS → Prop}, Wn α L (callC Gv ps.length N.length b ds st0) → ds.length = ps.length ∧ Wn (fun d st => noClo d = true ∧ α d st) (fun c fs st => noClos fs = true ∧ L c fs st) (evB (G.cl Gv) b (env0 N.length ds) st0) := fun {ds st0 α L} z => by
    unfold callC at z
    split at z
    · rename_i h
      refine ⟨h, ?_⟩
      cases q : evB (G.cl Gv) b (env0 N.length ds) st0 with
      | ok d st1 =>
        rw [q] at z
        unfold guardR at z
        dsimp only at z
        split at z
        · rename_i n; exact ⟨n, z⟩
        · exact z.elim
      | raise c fs st1 =>
        rw [q] at z
        unfold guardR at z
        dsimp only at z
        split at z
        · rename_i n; exact ⟨n, z⟩
        · exact z.elim
      | stuck => rw [q] at z; exact z
    · exact z.elim
  refine fn_of lk hcd S (fun vs H Q E h => ?_) fun A outer s H vs Q E hr h => ?_
  · obtain ⟨F1, st0, ds, _, _, _, r, z⟩ := h
    rw [r.length]
    exact (len z).1
  · obtain ⟨F1, st0, ds, h1, h2, ⟨h3, h4⟩, r, z⟩ := h
    have C : CtxS (W.clo (CloDef T (defScope st) (envOfC qual (defScope st) s.heap.objs.size f cdv).cells ((envOfC qual (defScope st) s.heap.objs.size f cdv).qual ++ "<lambda>"))) T (G.cl Gv) k (cxOf (L2.CX P w) P w K mg base N qual (defScope st) f cdv A outer s H E) ⟨H, F1, E⟩ (defScope st) :=
      ctx_def (B.cl h0) hN S hl hr fun _ _ => ⟨fun _ _ _ => Iff.rfl, rfl⟩
    refine ⟨_, snd_body C (defBody st), env0 N.length ds, [], F1, st0, gr_start (W := W.clo _) h1 h2 h3 h4 (r.up h0), ?_⟩
    rw [hb]
    refine ((len z).2.bind.monoL (fun c fs st y cls dx H' u => y.2 cls dx H' (u.dn y.1))).mono fun ⟨s1, c⟩ st1 z => ?_
    cases c with
    | nx => exact fun σ' H' F' g' _ => z.2 .non H' F' g'.fin.dn .non
    | ct => exact z.elim
    | ret d => exact fun v H' F' f' _ r' => z.2 v H' F' f'.dn (r'.down z.1)
theorem fn_ok0 {f : Addr} {fd : FuncData} {ps : List Str} : FnOk P w K mg base (L2.CX P w) k f fd ps (spF W fun _ _ => .stuck) :=
  ⟨fun vs H Q E ⟨_, _, _, _, _, _, _, z⟩ => z.elim, fun A outer s H args us vs Q E _ _ _ _ ⟨_, _, _, _, _, _, _, z⟩ => z.elim⟩
end
end Ev
/-! Ev27: the defs of a text, level by level. -/
namespace Ev
open PySem PySem.Spec PyProof.Rows L2
/-- the defs' trees, the global names, the classes of errors -/
structure Tbl where
  bod : Str → Option (Nat × Nat × Bool × Ss)
  glob : Str → Option D
  sub : Str → List Str
  fields : Str → List Str
noncomputable def gAt (B : Tbl) : Nat → G
  | 0 => { call := fun _ _ _ => .stuck, lam := fun _ _ _ => .stuck, glob := B.glob, sub := B.sub, fields := B.fields }
  | n + 1 => { call := fun x ds st => match B.bod x with
      | some (np, ns, cl, b) => if cl then callC (gAt B n) np ns b ds st else callB (gAt B n) np ns b ds st
      | none => .stuck, lam := fun _ _ _ => .stuck, glob := B.glob, sub := B.sub, fields := B.fields }
/-- the same text-wide part -/
def TB.loc (T : TB) (N : List Str) (M : List Nat) (lam drs clo : Bool) (lamv : List Nat) : TB := { T with N := N, M := M, lam := lam, drs := drs, clo := clo, lamv := lamv }
/-- a def of the text, as the table has it -/
def DefIn (W : Wd) (T : TB) (B : Tbl) (K : PySem.W.Frag) (mg : Str → Option Value) (base : Heap) (x : Str) : Prop :=
  ∃ (f : Addr) (st : Stmt) (oc : Value) (od an : Option Addr) (osl : Array (Option Value)) (kV doc pm cdv ct : Value) (N ps : List Str) (M : List Nat) (lam drs clo : Bool) (lamv : List Nat),
    K.lookup f = some ⟨oc, od, .func (PySem.W.fnOf x x (defArgs st) (defBody st) (defScope st) .none kV doc pm an cdv ct), osl⟩ ∧ PySem.W.codeIn K cdv x = true ∧ PySem.W.keepIn K (.ref f) = true ∧ mg x = some (.ref f) ∧
    FnScope N ps (defScope st) ∧ (lam = true → LamAt W base mg x cdv) ∧ Binds K (PySem.W.fnOf x x (defArgs st) (defBody st) (defScope st) .none kV doc pm an cdv ct) ps [] ∧
    (∀ p ∈ T.kfns, p.1 = x → KBinds K (PySem.W.fnOf x x (defArgs st) (defBody st) (defScope st) .none kV doc pm an cdv ct) ps p.2.2.1 (permG p.2.1 p.2.2.1.length p.2.2.2) (permG p.2.1 p.2.2.1.length p.2.2.2)) ∧
    B.bod x = some (ps.length, N.length, clo, trSs (T.loc N M lam drs clo lamv) (defScope st) (defBody st))
/-- what holds of a text behind its top, at every level -/
structure Txt (W : Wd) (T : TB) (B : Tbl) (P : Program) (w : World) (K : PySem.W.Frag) (mg : Str → Option Value) (base : Heap) : Prop where
  hK : K = W.K
  blt : ∀ x ∈ bltNames, mg x = none
  gcd : T.gcd = true → mg "gcd" = some (.builtin "math.gcd")
  defs : ∀ x, T.fns.contains x = true → DefIn W T B K mg base x
  kdefs : ∀ p ∈ T.kfns, T.fns.contains p.1 = true
  consts : ∀ x, T.consts.contains x = true → ∀ d, B.glob x = some d → ∃ v u, mg x = some u ∧ RelV v u ∧ ∀ F, Rep W F v d
  isc : ∀ x, (T.excs.contains x || T.fexcs.contains x) = true → ∃ C : Addr, mg x = some (.ref C) ∧ ∀ c v H F, LeK F H → ExcRep W F v c → ∃ t, KitH P w K H v t ∧ PySem.W.kitOne K t (.ref C) = some ((B.sub c).contains x)
  exs : ∀ (X : Cx), X.K = K → X.mg = mg → ∀ x, T.excs.contains x = true → ExAt W X x
  cg : ∃ (g CS : Addr) (st : Stmt) (fd : FuncData), CgDef K mg CS st g fd ∧ ∀ c cls, W.exA c cls → PySem.W.exmOne K cls (.ref CS) = some true
  noclo : ∀ o t c, ¬ W.cloA o t c
  fld : ∀ c cls f, W.exA c cls → W.exF c f → ∃ C : Addr, cls = .ref C ∧ XfC K C ∧ PySem.W.findIn K (.ref C) f = some none ∧ B.fields c = [f]
  fexs : ∀ (X : Cx), X.prog = P → X.w = w → X.K = K → X.mg = mg → X.base = base → X.calm = true → Room 2 X.A → (∀ x, T.fexcs.contains x = true → FExAt W X x)
section
variable {W : Wd} {T : TB} {B : Tbl} {P : Program} {w : World} {K : PySem.W.Frag} {mg : Str → Option Value} {base : Heap}
theorem gAt_glob (B : Tbl) (n : Nat) : (gAt B n).glob = B.glob := by cases n <;> rfl
theorem gAt_sub (B : Tbl) (n : Nat) : (gAt B n).sub = B.sub := by cases n <;> rfl
theorem gAt_fields (B : Tbl) (n : Nat) : (gAt B n).fields = B.fields := by cases n <;> rfl
/-- one level, from what its calls are -/
theorem Txt.glb (t : Txt W T B P w K mg base) {n : Nat} {N : List Str} {M : List Nat} {lam drs clo : Bool} {lamv : List Nat}
    (h : ∀ x, T.fns.contains x = true → ∃ (f : Addr) (fd : FuncData) (ps : List Str), mg x = some (.ref f) ∧ PySem.W.keepIn K (.ref f) = true ∧ FnOk P w K mg base (L2.CX P w) (3 * n) f fd ps (spF W ((gAt B n).call x)) ∧ Binds K fd ps [] ∧
      ∀ p ∈ T.kfns, p.1 = x → KBinds K fd ps p.2.2.1 (permG p.2.1 p.2.2.1.length p.2.2.2) (permG p.2.1 p.2.2.1.length p.2.2.2)) : Glb W (T.loc N M lam drs clo lamv) (gAt B n) (3 * n) P w K mg base := by
  refine ⟨t.hK, t.blt, t.gcd, fun X e1 e2 e3 e4 e5 => ?_, fun _ => t.cg, fun c cls f h1 h2 => by rw [gAt_fields]; exact t.fld c cls f h1 h2, fun X e1 e2 e3 e4 e5 e6 hr => t.fexs X e1 e2 e3 e4 e5 e6 (hr.mono (Nat.le_add_left 2 _))⟩
  subst e1 e2 e3 e4 e5
  refine ⟨fun x hx => h x hx, fun p hp => h p.1 (t.kdefs p hp), fun x hx d hd => ?_, fun x hx => ?_, t.exs X rfl rfl⟩
  · rw [gAt_glob] at hd
    exact t.consts x hx d hd
  · obtain ⟨C, h1, h2⟩ := t.isc x hx
    refine ⟨C, h1, fun c v H F l r => ?_⟩
    rw [gAt_sub]
    exact h2 c v H F l r
theorem Txt.fns (t : Txt W T B P w K mg base) : ∀ n x, T.fns.contains x = true → ∃ (f : Addr) (fd : FuncData) (ps : List Str), mg x = some (.ref f) ∧ PySem.W.keepIn K (.ref f) = true ∧ FnOk P w K mg base (L2.CX P w) (3 * n) f fd ps (spF W ((gAt B n).call x)) ∧ Binds K fd ps [] ∧
      ∀ p ∈ T.kfns, p.1 = x → KBinds K fd ps p.2.2.1 (permG p.2.1 p.2.2.1.length p.2.2.2) (permG p.2.1 p.2.2.1.length p.2.2.2)
  | 0, x, hx => by
    obtain ⟨f, st, oc, od, an, osl, kV, doc, pm, cdv, ct, N, ps, M, lam, drs, clo, lamv, h1, h2, h3, h4, h5, h6, h7, h8, h9⟩ := t.defs x hx
    exact ⟨f, _, ps, h4, h3, fn_ok0, h7, h8⟩
  | n + 1, x, hx => by
    obtain ⟨f, st, oc, od, an, osl, kV, doc, pm, cdv, ct, N, ps, M, lam, drs, clo, lamv, h1, h2, h3, h4, h5, h6, h7, h8, h9⟩ := t.defs x hx
    have B' : Glb W (T.loc N M lam drs clo lamv) (gAt B n) (3 * n) P w K mg base := t.glb (t.fns n)
    cases clo with
    | false =>
      have ok := fn_ok B' h1 h2 h6 h5 rfl rfl rfl
      have e : (gAt B (n + 1)).call x = callB (gAt B n) ps.length N.length (trSs (T.loc N M lam drs false lamv) (defScope st) (defBody st)) := by
        funext ds st'
        show (match B.bod x with | some (np, ns, cl, b) => if cl then callC (gAt B n) np ns b ds st' else callB (gAt B n) np ns b ds st' | none => .stuck) = _
        rw [h9]
        rfl
      refine ⟨f, _, ps, h4, h3, ?_, h7, h8⟩
      rw [e]
      exact ok
    | true =>
      have ok := fn_okC B' t.noclo h1 h2 h6 h5 rfl rfl
      have e : (gAt B (n + 1)).call x = callC (gAt B n) ps.length N.length (trSs (T.loc N M lam drs true lamv) (defScope st) (defBody st)) := by
        funext ds st'
        show (match B.bod x with | some (np, ns, cl, b) => if cl then callC (gAt B n) np ns b ds st' else callB (gAt B n) np ns b ds st' | none => .stuck) = _
        rw [h9]
        rfl
      refine ⟨f, _, ps, h4, h3, ?_, h7, h8⟩
      rw [e]
      exact ok
/-- THE THEOREM of a text: each level's context -/
theorem Txt.at (t : Txt W T B P w K mg base) (n : Nat) (N : List Str) (M : List Nat) (lam drs clo : Bool) (lamv : List Nat) : Glb W (T.loc N M lam drs clo lamv) (gAt B n) (3 * n) P w K mg base := t.glb (t.fns n)
end
end Ev
/-! Ev28: the world of a law, before and behind the first draw. -/
namespace Ev
open PySem PySem.Spec PyProof.Rows L2
theorem tabs_keep {tabs : List (Addr × Str)} {H H' : Hp} (t : LamX.Tabs tabs H) (h1 : ∀ p ∈ tabs, H' p.1 = H p.1) (h2 : ∀ a c q, H a = some (LamX.CodeO c q) → H' a = some (LamX.CodeO c q)) : LamX.Tabs tabs H' := fun p hp => by
  obtain ⟨ps, a1, a2, a3⟩ := t p hp
  refine ⟨ps, by rw [h1 p hp]; exact a1, a2, fun pos cv hc => ?_⟩
  obtain ⟨c, e1, e2⟩ := a3 pos cv hc
  exact ⟨c, e1, h2 _ _ _ e2⟩
theorem tabs_upd {tabs : List (Addr × Str)} {H : Hp} {a : Addr} {o u : HO} (t : LamX.Tabs tabs H) (h : H a = some o) (n1 : ∀ ps, o ≠ .tbl ps) (n2 : ∀ c q, o ≠ LamX.CodeO c q) : LamX.Tabs tabs (upd H a u) :=
  tabs_keep t (fun p hp => by
    obtain ⟨ps, a1, _⟩ := t p hp
    rw [upd_ne (fun e => n1 ps (by rw [e, h] at a1; exact Option.some.inj a1))]) fun b c q e => by
    rw [upd_ne (fun e' => n2 c q (by rw [e', h] at e; exact Option.some.inj e))]; exact e
theorem lst_code {vs : List V} (c : Addr) (q : Str) : HO.lst vs ≠ LamX.CodeO c q := fun z => by unfold LamX.CodeO at z; cases z
theorem dk_code {vs : List (Key × V)} (c : Addr) (q : Str) : HO.dK vs ≠ LamX.CodeO c q := fun z => by unfold LamX.CodeO at z; cases z
/-- before the first draw -/
def W0 (K : PySem.W.Frag) (tabs : List (Addr × Str)) (exA : Str → Value → Prop) (exF : Str → Str → Prop) : Wd where
  K := K
  fnA := fun _ _ => False
  drA := fun _ => False
  mt := fun a => ∃ q, (a, q) ∈ tabs
  inv := fun H _ => LamX.Tabs tabs H
  stable := fun H H' _ t h1 h2 => tabs_keep t (fun p hp => h1 p.1 ⟨p.2, hp⟩) h2
  there := fun H _ a t ⟨q, hq⟩ => by
    obtain ⟨ps, a1, _⟩ := t _ hq
    rw [a1]; simp
  Ld := 0
  Cd := 0
  cells := []
  dr := fun _ _ _ _ z => z.elim
  drPut := fun _ _ _ _ _ z => z.elim
  drPop := fun _ _ _ _ _ _ z => z.elim
  exA := exA
  exF := exF
  cloA := fun _ _ _ => False
  tabs := tabs
  mtT := fun p hp => ⟨p.2, hp⟩
  invT := fun _ _ t => t
  invE := fun _ _ _ _ _ _ _ _ _ t => t
/-- what stands while the law draws -/
def drInv (tabs : List (Addr × Str)) (Sd L Ca : Addr) (cells : List Int) (H : Hp) (st : DS) : Prop :=
  H Sd = some (.dK (dsD L Ca st)) ∧ H L = some (.lst (st.great.map V.int)) ∧ st.cells = cells ∧ LamX.Tabs tabs H
theorem drInv.ne {tabs : List (Addr × Str)} {Sd L Ca : Addr} {cells : List Int} {H : Hp} {st : DS} (h : drInv tabs Sd L Ca cells H st) : Sd ≠ L := fun e => by
  have := h.1
  rw [e, h.2.1] at this
  cases this
theorem drInv.tabs_ne {tabs : List (Addr × Str)} {Sd L Ca : Addr} {cells : List Int} {H : Hp} {st : DS} (h : drInv tabs Sd L Ca cells H st) {p : Addr × Str} (hp : p ∈ tabs) : Sd ≠ p.1 ∧ L ≠ p.1 := by
  obtain ⟨ps, a1, _⟩ := h.2.2.2 p hp
  refine ⟨fun e => ?_, fun e => ?_⟩
  · rw [← e, h.1] at a1; cases a1
  · rw [← e, h.2.1] at a1; cases a1
def W1 (K : PySem.W.Frag) (tabs : List (Addr × Str)) (exA : Str → Value → Prop) (exF : Str → Str → Prop) (Sd L Ca : Addr) (cells : List Int) : Wd where
  K := K
  fnA := fun _ _ => False
  drA := fun a => a = Sd
  mt := fun a => a = Sd ∨ a = L ∨ ∃ q, (a, q) ∈ tabs
  inv := drInv tabs Sd L Ca cells
  stable := fun H H' _ t h1 h2 => ⟨by rw [h1 Sd (.inl rfl)]; exact t.1, by rw [h1 L (.inr (.inl rfl))]; exact t.2.1, t.2.2.1, tabs_keep t.2.2.2 (fun p hp => h1 p.1 (.inr (.inr ⟨p.2, hp⟩))) h2⟩
  there := fun H _ a t h => by
    rcases h with h | h | ⟨q, hq⟩
    · rw [h, t.1]; simp
    · rw [h, t.2.1]; simp
    · obtain ⟨ps, a1, _⟩ := t.2.2.2 _ hq
      rw [a1]; simp
  Ld := L
  Cd := Ca
  cells := cells
  dr := fun H st a t e => by
    subst e
    exact ⟨t.1, t.2.1, .inl rfl, .inr (.inl rfl), t.2.2.1⟩
  drPut := fun H st st' a t e h1 h2 => by
    subst e
    exact ⟨upd_same, by rw [upd_ne t.ne.symm, h1]; exact t.2.1, by rw [h2]; exact t.2.2.1, tabs_upd t.2.2.2 t.1 (fun _ z => nomatch z) dk_code⟩
  drPop := fun H st a g gs t e h => by
    subst e
    refine ⟨?_, upd_same, t.2.2.1, tabs_upd t.2.2.2 t.2.1 (fun _ z => nomatch z) lst_code⟩
    rw [upd_ne t.ne]
    exact t.1
  exA := exA
  exF := exF
  cloA := fun _ _ _ => False
  tabs := tabs
  mtT := fun p hp => .inr (.inr ⟨p.2, hp⟩)
  invT := fun _ _ t => t.2.2.2
  invE := fun H st P q ps c t hP hc hT => by
    have n := t.tabs_ne hP
    refine ⟨?_, ?_, t.2.2.1, hT⟩
    · rw [upd_ne (ne_of_none t.1 hc), upd_ne n.1]; exact t.1
    · rw [upd_ne (ne_of_none t.2.1 hc), upd_ne n.2]; exact t.2.1
end Ev
/-! Ev29: the draws begin. -/
namespace Ev
open PySem PySem.Spec PyProof.Rows L2
def greatOf (ns : List Int) : List Int := (ns.filter fun n => decide (10 ^ 18 ≤ (n.natAbs : Int))).map fun n => (n.natAbs : Int) - 10 ^ 18
def cellsOf (ns : List Int) : List Int := ns.map fun n => (n.natAbs : Int)
def begun (ns : List Int) : DS := ⟨greatOf ns, cellsOf ns, 0, 0⟩
theorem mapR_ok {f : D → DS → Res (Option D)} {h : D → Option D} {st : DS} : ∀ {ds : List D}, (∀ d ∈ ds, f d st = .ok (h d) st) → mapR f ds st = .ok (ds.filterMap h) st
  | [], _ => rfl
  | d :: ds, hh => by
    rw [mapR, hh d List.mem_cons_self, Res.bind_ok, mapR_ok fun e he => hh e (List.mem_cons_of_mem _ he), Res.bind_ok, List.filterMap_cons]
    cases h d <;> rfl
/-- the two comprehensions' trees -/
def greatT : E := .comp [2] (.nm 2) (.e (.var 0)) (.cons (.cmp .ge (.b1 .abs (.bor 2)) (.bin .pow (.int 10) (.int 18))) .nil) (.bin .sub (.b1 .abs (.bor 2)) (.bin .pow (.int 10) (.int 18)))
def cellsT : E := .comp [2] (.nm 2) (.e (.var 0)) .nil (.b1 .abs (.bor 2))
theorem great_ev (g : G) (ns : List Int) (x y : Option D) (st : DS) (hl : ns.length ≤ 1000000) : evE g greatT [some (.scr ns), x, y] st = .ok (.lst ((greatOf ns).map .int)) st := by
  have e : ∀ d ∈ ns.map D.int, (fun d st => Res.noRaise ((ofO (bindT (.nm 2) d (wipeE [some (.scr ns), x, y] [2])) st).bind fun env st => (evCs g (.cons (.cmp .ge (.b1 .abs (.bor 2)) (.bin .pow (.int 10) (.int 18))) .nil) env st).bind fun k st =>
      if k then (evE g (.bin .sub (.b1 .abs (.bor 2)) (.bin .pow (.int 10) (.int 18))) env st).bind fun x st => .ok (some x) st else .ok none st)) d st =
      .ok (match d with | .int n => if 10 ^ 18 ≤ (n.natAbs : Int) then some (.int ((n.natAbs : Int) - 10 ^ 18)) else none | _ => none) st := fun d hd => by
    obtain ⟨n, _, rfl⟩ := List.mem_map.mp hd
    have p : binop .pow (.int 10) (.int 18) = some (.int (10 ^ 18)) := by simp [binop]
    by_cases c : (10 : Int) ^ 18 ≤ (n.natAbs : Int)
    · have c' : (1000000000000000000 : Int) ≤ (n.natAbs : Int) := by simpa using c
      simp [bindT, wipeE, st1, evCs, evE, lk, b1op, p, cmpop, asB, c', binop, Res.noRaise]
    · have c' : ¬ (1000000000000000000 : Int) ≤ (n.natAbs : Int) := by simpa using c
      simp [bindT, wipeE, st1, evCs, evE, lk, b1op, p, cmpop, asB, c', binop, Res.noRaise]
  show ((evI g (.e (.var 0)) [some (.scr ns), x, y] st).bind _) = _
  have e1 : evI g (.e (.var 0)) [some (.scr ns), x, y] st = .ok (ns.map .int) st := by
    simp [evI, evE, lk, itemsD, hl]
  rw [e1, Res.bind_ok, mapR_ok e, Res.bind_ok]
  congr 2
  unfold greatOf
  rw [List.filterMap_map]
  clear e e1 hl
  induction ns with
  | nil => rfl
  | cons n ns ih =>
    rw [List.filterMap_cons]
    by_cases c : (10 : Int) ^ 18 ≤ (n.natAbs : Int)
    · rw [List.filter_cons_of_pos (by simpa using c)]
      simp only [Function.comp, if_pos c, List.map_cons]
      rw [← ih]
    · rw [List.filter_cons_of_neg (by simpa using c)]
      simp only [Function.comp, if_neg c]
      rw [← ih]
theorem cells_ev (g : G) (ns : List Int) (x y : Option D) (st : DS) (hl : ns.length ≤ 1000000) : evE g cellsT [some (.scr ns), x, y] st = .ok (.lst ((cellsOf ns).map .int)) st := by
  have e : ∀ d ∈ ns.map D.int, (fun d st => Res.noRaise ((ofO (bindT (.nm 2) d (wipeE [some (.scr ns), x, y] [2])) st).bind fun env st => (evCs g .nil env st).bind fun k st =>
      if k then (evE g (.b1 .abs (.bor 2)) env st).bind fun x st => .ok (some x) st else .ok none st)) d st =
      .ok (match d with | .int n => some (.int (n.natAbs : Int)) | _ => none) st := fun d hd => by
    obtain ⟨n, _, rfl⟩ := List.mem_map.mp hd
    simp [bindT, wipeE, st1, evCs, evE, lk, b1op, Res.noRaise]
  show ((evI g (.e (.var 0)) [some (.scr ns), x, y] st).bind _) = _
  have e1 : evI g (.e (.var 0)) [some (.scr ns), x, y] st = .ok (ns.map .int) st := by
    simp [evI, evE, lk, itemsD, hl]
  rw [e1, Res.bind_ok, mapR_ok e, Res.bind_ok]
  congr 2
  unfold cellsOf
  rw [List.filterMap_map]
  clear e e1 hl
  induction ns with
  | nil => rfl
  | cons n ns ih =>
    rw [List.filterMap_cons]
    simp only [Function.comp, List.map_cons]
    rw [← ih]
end Ev
/-! Ev30: the def that begins the draws. -/
namespace Ev
open PySem PySem.Spec PyProof.Rows L2
/-- the promise of the def that begins -/
def spBegun (K : PySem.W.Frag) (tabs : List (Addr × Str)) : Sp := fun vs H Q _ => ∃ (F : Hp) (a : Addr) (ns : List Int), (LeK F H ∧ TbOk H F) ∧ (∀ a q, (a, q) ∈ tabs → F a = none) ∧ LamX.Tabs tabs H ∧
  vs = [.ref a] ∧ SqL K F a (ns.map V.int) ∧ ns.length ≤ 1000 ∧ ∀ (Sd L Ca : Addr) (H' : Hp), H Sd = none → H L = none → H Ca = none → L ≠ Ca → H' Sd = some (.dK (dsD L Ca (begun ns))) → H' L = some (.lst ((greatOf ns).map V.int)) → H' Ca = some (.lst ((cellsOf ns).map V.int)) →
    (∀ b o, H b = some o → (∀ q, (b, q) ∉ tabs) → H' b = some o) → LamX.Tabs tabs H' → Q (.ref Sd) H'
theorem asIs_map : ∀ ns : List Int, asIs (ns.map D.int) = some ns
  | [] => rfl
  | n :: ns => by
    show (match D.int n, asIs (ns.map D.int) with | .int b, some bs => some (b :: bs) | _, _ => none) = _
    rw [asIs_map ns]
section
variable {K : PySem.W.Frag} {tabs : List (Addr × Str)} {exA : Str → Value → Prop} {exF : Str → Str → Prop} {T : TB} {Gv : G} {k : Nat} {P : Program} {w : World} {mg : Str → Option Value} {base : Heap}
theorem begun_ok (B : Glb (W0 K tabs exA exF) T Gv k P w K mg base) {x : Str} {st : Stmt} {f : Addr} {oc : Value} {od an : Option Addr} {osl : Array (Option Value)} {kV doc pm cdv ct : Value}
    (lk : K.lookup f = some ⟨oc, od, .func (PySem.W.fnOf x x (defArgs st) (defBody st) (defScope st) .none kV doc pm an cdv ct), osl⟩) (hcd : PySem.W.codeIn K cdv x = true) (hl : T.lam = false) (hlc : T.clo = false)
    (S : FnScope (["script", "great", "cell"] : List Str) (["script"] : List Str) (defScope st)) (hN : T.N = (["script", "great", "cell"] : List Str)) {s1 : Stmt} {lc : Expr} {j1 j2 j3 j4 j5 j6 : Nat} {q1 q2 q3 q4 q5 q6 q7 q8 q9 : Pos}
    (hb : defBody st = [s1, .Return (some (.Dict [some (.Constant (.str "great") j1 q1), some (.Constant (.str "cells") j2 q2), some (.Constant (.str "rest") j3 q3), some (.Constant (.str "turn") j4 q4)] [.Name "great" q5, lc, .Constant (.int 0) j5 q6, .Constant (.int 0) j6 q7] q8)) q9])
    (hg : (defScope st).names.lookup ("great" : Str) = some .local) (h1 : trS T 60 (defScope st) 60 s1 = .asg (.nm 1) true greatT) (h2 : trE T 60 (defScope st) false lc = cellsT) :
    FnOk P w K mg base (L2.CX P w) (k + 3) f (PySem.W.fnOf x x (defArgs st) (defBody st) (defScope st) .none kV doc pm an cdv ct) ["script"] (spBegun K tabs) := by
  refine fn_of lk hcd S (fun vs H Q E ⟨_, _, _, _, _, _, e, _⟩ => by rw [e]; rfl) fun A outer s H vs Q E hr h => ?_
  obtain ⟨F, a, ns, ⟨a1, a9⟩, a2, a3, rfl, a5, a6, a7⟩ := h
  have C : CtxS (W0 K tabs exA exF) T Gv k (cxOf (L2.CX P w) P w K mg base (["script", "great", "cell"] : List Str) x (defScope st) f cdv A outer s H E) ⟨H, F, E⟩ (defScope st) := ctx_def B hN S (fun z => by rw [hl] at z; cases z) hr (fun _ z => by rw [hlc] at z; cases z)
  have C1 : ∀ g1 : Gh, g1.E0 = E → CtxE (W0 K tabs exA exF) T Gv k (cxOf (L2.CX P w) P w K mg base (["script", "great", "cell"] : List Str) x (defScope st) f cdv A outer s H E) g1 (defScope st) := fun g1 e =>
    ⟨C.hN, C.nd, C.hsc, C.kind, C.hK, C.calm, C.room, C.blt, C.gcd, C.fns, C.kfns, C.consts, C.lamI, C.isc, by rw [e]; exact C.pass, C.fld, C.cloI⟩
  have pl : PE (cxOf (L2.CX P w) P w K mg base (["script", "great", "cell"] : List Str) x (defScope st) f cdv A outer s H E) lc (fun σ H Q => ∃ g1 : { g1 : Gh // g1.E0 = E }, tE (W0 K tabs exA exF) g1.1 (fun _ => false) .own (evE Gv cellsT) σ H Q) := PE.ex fun g1 => by
    have z := ((snd_e 60 (C1 g1.1 g1.2)).1 false lc).own (by rw [h2]; rfl) (Ω := fun _ => false) fun _ _ => rfl
    rw [h2] at z
    exact z
  have pg : PE (cxOf (L2.CX P w) P w K mg base (["script", "great", "cell"] : List Str) x (defScope st) f cdv A outer s H E) (.Name "great" q5) (tVar 1) := pe_var rfl (.inl hg) (by decide) (by decide)
  have ps1 := snd_s C 60 60 s1
  rw [h1] at ps1
  rw [hb]
  refine ⟨_, pss_cons ps1 (pss_one (ps_ret (pe_disp (pps_cons pe_str pg (pps_cons pe_str pl (pps_cons pe_str pe_int (pps_cons pe_str pe_int pps_nil)))) rfl rfl (by intro z; cases z) (by show 4 ≤ 15; decide)))), ?_⟩
  have gr0 : GR (W0 K tabs exA exF) ⟨H, F, E⟩ (Ωo []) (L2.start (["script", "great", "cell"] : List Str) [.ref a]) H (env0 3 [.scr ns]) F (begun ns) := gr_start a1 (fun a ⟨q, hq⟩ => a2 a q hq) a3 a9 (.cons (.scr a5) .nil)
  have hlen : ns.length ≤ 1000000 := by omega
  have e1 : evS Gv (.asg (.nm 1) true greatT) (env0 3 [.scr ns], []) (begun ns) = .ok (([some (.scr ns), some (.lst ((greatOf ns).map .int)), none], [1]), .nx) (begun ns) := by
    show (evE Gv greatT [some (.scr ns), none, none] (begun ns)).bind _ = _
    rw [great_ev Gv ns none none (begun ns) hlen]
    rfl
  refine ⟨env0 3 [.scr ns], [], F, begun ns, gr0, ?_⟩
  rw [e1]
  intro σ' H1 F1 g1 l1
  obtain ⟨F2, g2, l2⟩ := g1.freeze [1]
  obtain ⟨v, sv, rv⟩ := g2.slot 1 (.lst ((greatOf ns).map .int)) rfl
  rw [if_neg (by rw [frz_out (by simp)]; decide)] at rv
  cases rv with
  | @lst L vs _ fL rL =>
  rw [asIs_reps (asIs_map _) rL] at fL
  intro p hp
  have g3 := g2.alloc (o := .dK []) hp
  refine ⟨.ref L, sv, ⟨⟨upd H1 p (.dK []), F2, E⟩, rfl⟩, [some (.scr ns), some (.lst ((greatOf ns).map .int)), none], F2, begun ns, ⟨fun b o e _ => e, g3.sub, g3.nmut, Le.refl _, fun b o e => .inl e, g3.inv, fun b m => (W0 K tabs exA exF).there _ _ b g3.inv m, g3.len, fun i d e => ?_, (fun i j v di dj oi => by cases oi), g3.tb⟩, ?_⟩
  · obtain ⟨u, e2, e3⟩ := g3.slot i d e
    refine ⟨u, e2, ?_⟩
    rw [if_neg (by decide)]
    have : Ωo (frz [1] [1]) i = false := by
      unfold Ωo frz
      simp
    rw [if_neg (by rw [this]; decide)] at e3
    exact e3
  · rw [cells_ev Gv ns _ _ (begun ns) hlen]
    intro u H2 F3 g4 fx4 ow
    obtain ⟨Ca, ws, rfl, k1, k2, k3, rW⟩ := ow
    rw [asIs_reps (asIs_map _) rW] at k1
    have k3 : upd H1 p (.dK []) Ca = none := k3
    have nt : ∀ b, H1 b = none → ¬ (W0 K tabs exA exF).mt b := fun b hb ⟨q, hq⟩ => by
      obtain ⟨ps, z, _⟩ := (show LamX.Tabs tabs H1 from g1.inv) _ hq
      rw [hb] at z; cases z
    have hp2 : H2 p = some (.dK []) := g4.keep p _ upd_same (nt p hp)
    have hL1 : H1 L = some (.lst ((greatOf ns).map V.int)) := (g2.sub _ _ fL).plain rfl
    have hL2 : H2 L = some (.lst ((greatOf ns).map V.int)) := (g4.sub _ _ (fx4.le _ _ fL)).plain rfl
    have npL : L ≠ p := ne_of_none hL1 hp
    have npC : Ca ≠ p := fun e => by rw [e, upd_same] at k3; cases k3
    have hC1 : H1 Ca = none := by rw [upd_ne npC] at k3; exact k3
    have nLC : L ≠ Ca := ne_of_none hL1 hC1
    have hL0 : H L = none := by
      obtain ⟨u, z1, z2⟩ := g1.slot 1 (.lst ((greatOf ns).map .int)) rfl
      rw [if_pos (by rfl)] at z2
      obtain ⟨p', ws', y1, y2, y3, y4, y5⟩ := z2
      rw [sv] at z1
      cases z1
      cases y1
      exact y4
    refine ⟨hp2, [(.inr "great", .ref L), (.inr "cells", .ref Ca), (.inr "rest", .int 0), (.inr "turn", .int 0)], rfl, by show 4 ≤ 15; decide, ?_⟩
    refine a7 p L Ca _ (g1.free0 hp) hL0 (g1.free0 hC1) nLC (by rw [upd_same]; rfl) (by rw [upd_ne npL]; exact hL2) (by rw [upd_ne npC]; exact k1) (fun b o e n => ?_) ?_
    · have z1 := g1.keep b o e (fun ⟨q, hq⟩ => n q hq)
      have nb : b ≠ p := ne_of_none z1 hp
      rw [upd_ne nb]
      exact g4.keep b o (by show upd H1 p (.dK []) b = some o; rw [upd_ne nb]; exact z1) (fun ⟨q, hq⟩ => n q hq)
    · exact tabs_upd g4.inv hp2 (fun _ z => nomatch z) dk_code
end
end Ev
/-! Ev31: the law's def: it begins the draws, and goes on in the world of the draws. -/
namespace Ev
open PySem PySem.Spec PyProof.Rows L2
theorem PSs.ex {ι : Type} {X : Cx} {s : List Stmt} {t : ι → TS} (h : ∀ i, PSs X s (t i)) : PSs X s (fun De σ H => ∃ i, t i De σ H) := ⟨fun pins s σ H De I ⟨i, q⟩ => (h i).run pins s σ H De I q⟩
/-- the promise of a law: the tree b comes to True -/
def spLaw (K : PySem.W.Frag) (tabs : List (Addr × Str)) (Gv : G) (n : Nat) (b : Ss) : Sp := fun vs H Q _ => ∃ (F : Hp) (a : Addr) (ns : List Int), (LeK F H ∧ TbOk H F) ∧ (∀ a q, (a, q) ∈ tabs → F a = none) ∧ LamX.Tabs tabs H ∧
  vs = [.ref a] ∧ SqL K F a (ns.map V.int) ∧ ns.length ≤ 1000 ∧ (∃ st, evB (G.cl Gv) b ((env0 n [.scr ns]).set 1 (some .drw)) (begun ns) = .ok (.bl true) st) ∧ ∀ H', Q (.bl true) H'
/-- where a law's world stands -/
structure Pl where
  Sd : Addr
  L : Addr
  Ca : Addr
  cells : List Int
  g : Gh
section
variable {K : PySem.W.Frag} {tabs : List (Addr × Str)} {exA : Str → Value → Prop} {exF : Str → Str → Prop} {T : TB} {Gv : G} {k : Nat} {P : Program} {w : World} {mg : Str → Option Value} {base : Heap}
/-- the world of the draws, with this frame's lambdas -/
abbrev W1c (φ : Obj → E → List Nat → Prop) (K : PySem.W.Frag) (tabs : List (Addr × Str)) (exA : Str → Value → Prop) (exF : Str → Str → Prop) (Sd L Ca : Addr) (cells : List Int) : Wd := (W1 K tabs exA exF Sd L Ca cells).clo φ
theorem law_ok (B : ∀ Sd L Ca cells, Glb (W1 K tabs exA exF Sd L Ca cells) T Gv k P w K mg base) {x : Str} {st : Stmt} {f fb : Addr} {fdb : FuncData} {oc : Value} {od an : Option Addr} {osl : Array (Option Value)} {kV doc pm cdv ct : Value} {N : List Str}
    (Fb : FnOk P w K mg base (L2.CX P w) k fb fdb ["script"] (spBegun K tabs)) (hmb : mg "_law_begun" = some (.ref fb)) (hkb : PySem.W.keepIn K (.ref fb) = true) (hbb : Binds K fdb ["script"] [])
    (lk : K.lookup f = some ⟨oc, od, .func (PySem.W.fnOf x x (defArgs st) (defBody st) (defScope st) .none kV doc pm an cdv ct), osl⟩) (hcd : PySem.W.codeIn K cdv x = true) (hl : T.lam = true → LamAt (W0 K tabs exA exF) base mg x cdv)
    (S : FnScope N (["script"] : List Str) (defScope st)) (hN : T.N = N) (h0 : N[0]? = some ("script" : Str)) (h1 : N[1]? = some ("draws" : Str)) (l0 : visB (defScope st) "script" = true) (l1 : locB (defScope st) "draws" = true)
    (lb : glB (defScope st) "_law_begun" = true)
    {p1 p2 p3 p4 p5 : Pos} {rest : List Stmt} {b : Ss} (hb : defBody st = .Assign [.Name "draws" p1] (.Call (.Name "_law_begun" p2) [.Name "script" p3] [] p4) p5 :: rest) (htr : trSs T (defScope st) rest = b) :
    FnOk P w K mg base (L2.CX P w) (k + 3) f (PySem.W.fnOf x x (defArgs st) (defBody st) (defScope st) .none kV doc pm an cdv ct) ["script"] (spLaw K tabs Gv N.length b) := by
  refine fn_of lk hcd S (fun vs H Q E ⟨_, _, _, _, _, _, e, _⟩ => by rw [e]; rfl) fun A outer s H vs Q E hr h => ?_
  obtain ⟨F, a, ns, ⟨a1, a9⟩, a2, a3, rfl, a5, a6, ⟨st', a7⟩, a8⟩ := h
  let φ : Obj → Ev.E → List Nat → Prop := CloDef T (defScope st) (envOfC x (defScope st) s.heap.objs.size f cdv).cells ((envOfC x (defScope st) s.heap.objs.size f cdv).qual ++ "<lambda>")
  have Cc : ∀ i : { i : Pl // i.g.E0 = E }, CtxS (W1c φ K tabs exA exF i.1.Sd i.1.L i.1.Ca i.1.cells) T (G.cl Gv) k (cxOf (L2.CX P w) P w K mg base N x (defScope st) f cdv A outer s H E) i.1.g (defScope st) := fun ⟨i, e⟩ => by
    have C : CtxS (W1c φ K tabs exA exF i.Sd i.L i.Ca i.cells) T (G.cl Gv) k (cxOf (L2.CX P w) P w K mg base N x (defScope st) f cdv A outer s H E) ⟨H, F, E⟩ (defScope st) := ctx_def ((B _ _ _ _).cl fun _ _ _ z => z) hN S hl hr fun _ _ => ⟨fun _ _ _ => Iff.rfl, rfl⟩
    exact { hN := C.hN, nd := C.nd, hsc := C.hsc, kind := C.kind, hK := C.hK, calm := C.calm, room := C.room, lamI := C.lamI, blt := C.blt, gcd := C.gcd, fns := C.fns, kfns := C.kfns, consts := C.consts, isc := C.isc, pass := (by rw [e]; exact C.pass), hfn := C.hfn, own := C.own, takes := (by rw [e]; exact C.takes), exs := C.exs, fexs := C.fexs, fld := C.fld, cloI := C.cloI }
  have C0 := Cc ⟨⟨0, 0, 0, [], ⟨H, F, E⟩⟩, rfl⟩
  have pe : PE (cxOf (L2.CX P w) P w K mg base N x (defScope st) f cdv A outer s H E) (.Call (.Name "_law_begun" p2) [.Name "script" p3] [] p4) (tCall (spBegun K tabs) [] E (tCons (tVar 0) tNil)) :=
    pe_call Fb C0.room (C0.gl lb) hmb hkb hbb .nil C0.pass (pa_cons (pe_var h0 (C0.vis l0) (by decide) (by decide)) pa_nil)
  have ps : PS (cxOf (L2.CX P w) P w K mg base N x (defScope st) f cdv A outer s H E) (.Assign [.Name "draws" p1] (.Call (.Name "_law_begun" p2) [.Name "script" p3] [] p4) p5) _ := ps_set (i := 1) (by rw [← hN]; exact C0.nd) h1 (C0.loc l1) pe rfl (.inl (C0.hfn _))
  rw [hb]
  refine ⟨_, pss_cons ps (PSs.ex fun i => snd_body (Cc i) rest), ?_⟩
  have st0 : (L2.start N [.ref a])[0]? = some (some (.ref a)) := by
    unfold L2.start
    rfl
  have ln : (L2.start N [.ref a]).length = N.length := by
    unfold L2.start
    have : 0 < N.length := by
      cases N with
      | nil => cases h0
      | cons _ _ => simp
    rw [List.length_append, List.length_map, List.length_replicate]
    simp; omega
  have l2 : 1 < N.length := (List.getElem?_eq_some_iff.mp h1).1
  refine ⟨.ref a, st0, F, a, ns, ⟨a1, a9⟩, a2, a3, rfl, a5, a6, fun Sd L Ca H' nS nL nC nLC e1 e2 e3 kp tb => ?_⟩
  have Fn : ∀ b, H b = none → F b = none := fun b e => by
    cases q : F b with
    | none => rfl
    | some u => exact absurd e (a1 b u q).ne
  have nSC : Sd ≠ Ca := fun e => by rw [e, e3] at e1; cases e1
  have tC : ∀ b q, (b, q) ∈ tabs → b ≠ Ca := fun b q m e => by
    obtain ⟨ps, z, _⟩ := a3 _ m
    have z : H b = some (.tbl ps) := z
    rw [e, nC] at z; cases z
  have cel : (begun ns).cells = cellsOf ns := rfl
  have lF : Le F (upd F Ca (.lst ((cellsOf ns).map V.int))) := fun b u e => by rw [upd_ne (ne_of_none e (Fn Ca nC))]; exact e
  have gr : GR (W1c φ K tabs exA exF Sd L Ca (cellsOf ns)) ⟨H', upd F Ca (.lst ((cellsOf ns).map V.int)), E⟩ (Ωo []) ((L2.start N [.ref a]).set 1 (some (.ref Sd))) H' ((env0 N.length [.scr ns]).set 1 (some .drw)) (upd F Ca (.lst ((cellsOf ns).map V.int))) (begun ns) := by
    refine ⟨fun b o e _ => e, fun b u e => ?_, fun b m => ?_, Le.refl _, fun b o e => .inl e, ⟨e1, e2, cel, tb⟩, fun b m => (W1c φ K tabs exA exF Sd L Ca (cellsOf ns)).there H' (begun ns) b ⟨e1, e2, cel, tb⟩ m, ?_, fun i d e => ?_, (fun i j v di dj oi => by cases oi), fun b o ψ fd c' e1 e2 e3 => ?_⟩
    · by_cases q : b = Ca
      · rw [q, upd_same] at e; cases e; rw [q]; exact .inl e3
      · rw [upd_ne q] at e
        exact (a1 b u e).keep fun u z => kp b u z fun q m => by rw [a2 b q m] at e; cases e
    · rcases m with m | m | ⟨q, m⟩
      · rw [m, upd_ne nSC]; exact Fn _ nS
      · rw [m, upd_ne nLC]; exact Fn _ nL
      · rw [upd_ne (tC b q m)]; exact a2 b q m
    · rw [List.length_set, List.length_set, ln]
      unfold env0
      rw [List.length_append, List.length_map, List.length_replicate]
      simp; omega
    · have no : ∀ v, Rep (W1c φ K tabs exA exF Sd L Ca (cellsOf ns)) (upd F Ca (HO.lst ((cellsOf ns).map V.int))) v d → (if Ωo [] i = true then Own (W1c φ K tabs exA exF Sd L Ca (cellsOf ns)) H' H' (upd F Ca (HO.lst ((cellsOf ns).map V.int))) v d else Rep (W1c φ K tabs exA exF Sd L Ca (cellsOf ns)) (upd F Ca (HO.lst ((cellsOf ns).map V.int))) v d) := fun v r => by rw [if_neg (by simp [Ωo])]; exact r
      suffices ∃ v, ((L2.start N [V.ref a]).set 1 (some (V.ref Sd)))[i]? = some (some v) ∧ Rep (W1c φ K tabs exA exF Sd L Ca (cellsOf ns)) (upd F Ca (HO.lst ((cellsOf ns).map V.int))) v d from let ⟨v, h1, h2⟩ := this; ⟨v, h1, no v h2⟩
      rw [lk_get] at e
      by_cases q : i = 1
      · subst q
        rw [List.getElem?_set_self (by unfold env0; rw [List.length_append, List.length_map, List.length_replicate]; simp; omega)] at e
        cases e
        refine ⟨.ref Sd, by rw [List.getElem?_set_self (by rw [ln]; exact l2)], .drw rfl upd_same⟩
      · rw [List.getElem?_set_ne (Ne.symm q)] at e
        unfold env0 at e
        cases i with
        | zero =>
          cases e
          exact ⟨.ref a, by rw [List.getElem?_set_ne (by decide)]; exact st0, .scr (lF.sqL a5)⟩
        | succ i =>
          rw [List.getElem?_append_right (by simp), List.getElem?_replicate] at e
          split at e <;> cases e
    · have nb : b ≠ Ca := fun q => by rw [q, upd_same] at e1; cases e1
      rw [upd_ne nb] at e1
      exact kp c' _ (a9 b o ψ fd c' e1 e2 e3) fun q m => by
        obtain ⟨ps, z, _⟩ := a3 _ m
        have z : H c' = some (.tbl ps) := z
        rw [a9 b o ψ fd c' e1 e2 e3] at z
        exact LamX.codeO_ne ps (Option.some.inj z)
  refine ⟨⟨⟨Sd, L, Ca, cellsOf ns, ⟨H', upd F Ca (.lst ((cellsOf ns).map V.int)), E⟩⟩, rfl⟩, _, [], _, _, gr, ?_⟩
  rw [htr]
  unfold evB at a7
  have z : Wn (fun (d : D) (_ : DS) => d = .bl true) (fun _ _ _ => False) (.ok (.bl true) st') := rfl
  rw [← a7] at z
  have z2 := z.bind
  cases q : evSs (G.cl Gv) b ((env0 N.length [.scr ns]).set 1 (some .drw), []) (begun ns) with
  | stuck => rw [q] at z2; exact z2.elim
  | raise c fs st1 => rw [q] at z2; exact z2.elim
  | ok r st1 =>
    rw [q] at z2
    obtain ⟨s1, c⟩ := r
    cases c with
    | nx => exact nomatch (show D.non = .bl true from z2)
    | ct => exact z2.elim
    | ret d =>
      have e : d = .bl true := z2
      subst e
      intro v H2 F2 f l r
      rw [r.bl_inv]
      exact a8 H2
end
end Ev
/-! Ev32: what the text says of its classes of errors. -/
namespace Ev
open PySem PySem.Spec PyProof.Rows L2
/-- what a class of errors must say -/
structure XC (K : PySem.W.Frag) (C : Addr) : Prop where
  cl : (PySem.W.clsIn K C).isSome = true
  hg : PySem.W.findIn K (.ref C) "__getattribute__" = some (some (.builtin "BaseException.__getattribute__"))
  hk : (PySem.W.findIn K (.ref C) "__getattr__").isSome = true
  hs : PySem.W.subIn K (.ref C) (.type "BaseException") = some true
  ha : PySem.W.findIn K (.ref C) "__class__" = some (some (.builtin "object.__class__"))
  hn : PySem.W.specialIn K (.builtin "object.__class__") "__get__" = some (some (.builtin "getset_descriptor.__get__"))
  ht : PySem.W.takesIn K (.builtin "object.__class__") = some true
  hm : PySem.W.mroIn K C (.type "object") = some true
theorem XC.kit {K : PySem.W.Frag} {C x : Addr} {ox : Obj} {od : Option Obj} (c : XC K C) : PySem.W.KitX K (.ref x) (.ref C) (fun h => PySem.W.InstAt h x ox C od) := by
  obtain ⟨gt, hk⟩ := Option.isSome_iff_exists.mp c.hk
  exact PySem.W.kitx_exc c.cl c.hg hk c.hs c.ha c.hn c.ht c.hm
theorem notCls_f {o : Obj} {vs : Array Value} (h : o.data = .fields vs) : PySem.W.notCls o = true := by
  unfold PySem.W.notCls
  rw [h]
theorem kit_none {P : Program} {w : World} {K : PySem.W.Frag} {C a : Addr} {H : Hp} (c : XC K C) (h : H a = some (ExcT (.ref C) none a)) : KitH P w K H (.ref a) (.ref C) := fun hp u X hok r => by
  cases r
  have z : ObjOk P w H hp a (.ext fun h => ∃ (oe : Obj) (vs : Array Value), h.get? a = some oe ∧ L2.Zc (.ref C) none oe ∧ oe.data = .fields vs) := hok a _ h
  obtain ⟨oe, vs, e1, ⟨e2, e3⟩, e4⟩ := z.1
  exact ⟨_, c.kit (ox := oe) (od := none), ⟨e1, e2, notCls_f e4, by rw [e3]; trivial⟩, fun z => nomatch z⟩
theorem kit_some {P : Program} {w : World} {K : PySem.W.Frag} {C a d : Addr} {fs : List (Str × V)} {H : Hp} (c : XC K C) (h : H a = some (ExcT (.ref C) (some d) a)) (h2 : H d = some (.xd fs)) : KitH P w K H (.ref a) (.ref C) := fun hp u X hok r => by
  cases r
  have z : ObjOk P w H hp a (.ext fun h => ∃ (oe : Obj) (vs : Array Value), h.get? a = some oe ∧ L2.Zc (.ref C) (some d) oe ∧ oe.data = .fields vs) := hok a _ h
  obtain ⟨oe, vs, e1, ⟨e2, e3⟩, e4⟩ := z.1
  have z2 : ObjOk P w H hp d (.xd fs) := hok d _ h2
  obtain ⟨mA, ⟨od, es, ep, e5, e6⟩, _⟩ := z2
  exact ⟨_, c.kit (ox := oe) (od := some od), ⟨e1, e2, notCls_f e4, by rw [e3]; exact e5⟩, fun z => nomatch z⟩
/-- isinstance of an error, by a class of the text -/
theorem isc_of {W : Wd} {P : Program} {w : World} {K : PySem.W.Frag} {mg : Str → Option Value} {sub : Str → List Str} {x : Str} {C : Addr} (hm : mg x = some (.ref C)) (hx : ∀ c cls, W.exA c cls → ∃ Cc, cls = .ref Cc ∧ XC K Cc ∧ PySem.W.kitOne K (.ref Cc) (.ref C) = some ((sub c).contains x)) :
    ∃ C : Addr, mg x = some (.ref C) ∧ ∀ c v H F, LeK F H → ExcRep W F v c → ∃ t, KitH P w K H v t ∧ PySem.W.kitOne K t (.ref C) = some ((sub c).contains x) := by
  refine ⟨C, hm, fun c v H F l r => ?_⟩
  obtain ⟨a, cls, dx, rfl, e, f, hd⟩ := r
  obtain ⟨Cc, rfl, xc, q⟩ := hx _ _ e
  cases dx with
  | none => exact ⟨.ref Cc, kit_none xc ((l _ _ f).plain rfl), q⟩
  | some d =>
    obtain ⟨g, u, f2⟩ := hd d rfl
    exact ⟨.ref Cc, kit_some xc ((l _ _ f).plain rfl) ((l _ _ f2).plain rfl), q⟩
end Ev
/-! Ev33: a class of errors with one field: super().__init__(x); self.f = x. -/
namespace Ev
open PySem PySem.Spec PyProof.Rows L2
theorem mc_eq {o e : Expr} {name : Str} {apos pos : Pos} {env : PySem.Env} (hs : starEach [e] env = [(false, eval e env)]) (hline : (apos.endLine == pos.line) = true) : eval (.Call (.Attribute o name apos) [e] [] pos) env = (do
      let ov ← attributeBase o name env (eval o env)
      standAt apos.atName
      let (f, first) ← holding [ov] (getMethod ov name (do return (← importBound o env).getD true))
      callWith pos f first (backTo pos (starEach [e] env)) []) := by
  have hform : methodCallForm ([e].length + ([] : List Keyword).length) (backTo pos (starEach [e] env)) (backToKw pos (keywordEach [] env)) = true := by rw [hs]; rfl
  have hpos : methodCallPos true o env apos pos = pure pos := by unfold methodCallPos; simp [hline]
  rw [arm_eval_Call]
  congr 1; funext ov
  congr 1; funext _
  unfold methodCall
  rw [hform]
  simp only [hpos]
  congr 1
theorem bw_call {prog : Program} {w : World} {A : Around} {E : Value → Shared → Prop} {h : Heap} {g : Array GenState} {d : Drawn} {t : Nat} {os : OsState} {nm q : Str} {C N : Addr} {bs bm : List Value} {hdct : Bool} {sn : List Str} {sub : List Value} {ab : Bool} {col : Option Bool} {dd : Option Addr} {k0 k1 k2 k3 k5 : Option Value}
    {u e t0 : Addr} {rest : List Value} {Q : Value → Shared → Prop}
    (hC : h.get? C = some (excClassObj nm q C N bs bm hdct sn sub ab col dd k0 k1 k2 k3 k5 "ValueError.__new__")) (he : h.get? e = some (PySem.HandSPX.excO C t0)) (hu : h.get? u = some (PySem.W.kxs_mw "ValueError.__init__" e)) (hrest : rest.length ≤ sizeLine)
    (hq : ∀ h' t1, (∀ b o, b ≠ e → h.get? b = some o → h'.get? b = some o) → h'.get? e = some (PySem.HandSPX.excO C t1) → Q .none ⟨h', g, d, t, os⟩) :
    wpAny (model prog w) A (call (.ref u) rest) Q E ⟨h, g, d, t, os⟩ := by
  refine wpAny_call (codeAny_of_tree ?_)
  show wpAny _ A.in1 (callAny (.ref u) ⟨rest, []⟩) _ _ _
  simp only [callAny]
  refine wpAny_bind (wpAny_load hu ?_)
  simp only [PySem.W.kxs_mw, show (Value.type "method-wrapper" == Value.type "method" || Value.type "method-wrapper" == Value.type "builtin_function_or_method" || Value.type "method-wrapper" == Value.type "method-wrapper") = true by decide, if_true]
  refine PySem.W.KFB.if_so (by decide) ?_
  refine wpAny_bind (PySem.ESX.check_bound F.excBase_ValueError hC he rfl ?_)
  refine wpAny_bind (wpAny_pure (wpAny_pure ?_))
  refine ⟨Code.quiet_builtin _ (by decide +kernel), codeAny_builtin F.excBase_ValueError.initEntry ?_⟩
  rw [Around.under_plainId F.excBase_ValueError.init.plain _]
  wp_walk
  refine hq _ h.objs.size (fun b o hb ho => ?_) ?_
  · rw [Heap.get?_update_other _ _ (Ne.symm hb)]
    exact Heap.get?_push_of_some _ ho
  · rw [Heap.get?_update_self _ (Heap.get?_push_of_some _ he) rfl]
    rfl
/-- what the text says of such a class and its __init__ -/
structure XF (P : Program) (K : PySem.W.Frag) (C : Addr) (x f : Str) (fI : Addr) (fd : FuncData) : Prop where
  oex : OexC K C
  iC : PySem.W.findIn K (.ref C) "__init__" = some (some (.ref fI))
  tI : PySem.W.typeIn K (.ref fI) = some (.type "function")
  hno : PySem.W.findIn K (.ref C) f = some none
  bnd : Binds K fd ["self", f] []
  fn : ∃ (oc : Value) (od an : Option Addr) (osl : Array (Option Value)) (qual : Str) (args : Arguments) (body : List Stmt) (scope : Scope) (kV doc pm ct : Value) (cc cda : Addr) (a1 : Arg) (as : List Arg) (cdD : ClassData) (cl ccl : Value) (cld cdd : Option Addr) (csl ccs : Array (Option Value)) (vs : Array Value) (file : Str) (tf : Tok) (q1 q2 q3 q4 q5 q6 q7 q8 q9 q10 : Pos),
    K.lookup fI = some ⟨oc, od, .func (PySem.W.ksFn "__init__" qual args body scope .none kV doc pm an (.ref cda) ct cc), osl⟩ ∧ fd = PySem.W.ksFn "__init__" qual args body scope .none kV doc pm an (.ref cda) ct cc ∧ PySem.W.codeIn K (.ref cda) qual = true ∧
    args.posonlyargs ++ args.args = a1 :: as ∧ a1.arg = "self" ∧
    K.lookup cda = some ⟨ccl, cdd, .fields vs, ccs⟩ ∧ vs[2]? = some (.str file tf) ∧ ((P.main.file : Str) == file) = true ∧ K.lookup cc = some ⟨cl, cld, .cell (some (.ref C)), csl⟩ ∧ PySem.W.clsIn K C = some cdD ∧
    PySem.W.mroIn K C (.ref C) = some true ∧ PySem.W.ks_superIn K C C "__init__" = some (some (.builtin "ValueError.__init__")) ∧ PySem.W.subIn K (.ref C) (.type "ValueError") = some true ∧ PySem.W.nsIn K cStatics "thirdparty.any" = some none ∧
    scope.kind = .function ∧ scope.isCoroutine = false ∧ scope.isGenerator = false ∧ scope.names.lookup ("self" : Str) = some .local ∧ scope.names.lookup f = some .local ∧ scope.names.lookup ("super" : Str) = some .globalImplicit ∧ scope.names.lookup ("__class__" : Str) = some .free ∧
    (∀ y ∈ scope.names, y.2 ≠ .cell) ∧ (∀ y ∈ scope.names, y.2 = .free → y.1 = "__class__") ∧ (P.main.scope.names.lookup ("super" : Str)).isSome = false ∧ f ≠ "self" ∧ (f == ("__debug__" : Str)) = false ∧ (f == ("__classdict__" : Str)) = false ∧ (q3.endLine == q5.line) = true ∧
    body = [.Expr (.Call (.Attribute (.Call (.Name "super" q1) [] [] q2) "__init__" q3) [.Name f q4] [] q5) q6, .Assign [.Attribute (.Name "self" q7) f q8] (.Name f q9) q10]
/-- the promise of such an __init__ -/
def spIni (C : Addr) (f : Str) : Sp := fun vs H Q _ => ∃ (a : Addr) (v : V), vs = [.ref a, v] ∧ H a = some (exo a C none) ∧ ∀ dx, H dx = none → dx ≠ a → Q .non (upd (upd H dx (exd dx [(f, v)])) a (exo a C (some dx)))
/-- the context of its body -/
def cxI (P : Program) (w : World) (K : PySem.W.Frag) (mg : Str → Option Value) (base : Heap) (f qual : Str) (scope : Scope) (fI : Addr) (cda cc : Addr) (A : Around) (outer : List PySem.Env) (s : Shared) (H : Hp) : Cx where
  prog := P
  w := w
  K := K
  mg := mg
  base := base
  A := A.deeper (PySem.W.ksEnv qual scope s.heap.objs.size fI (.ref cda) cc)
  N := ["self", f]
  s_0 := s
  H_0 := H
  env := PySem.W.ksEnv qual scope s.heap.objs.size fI (.ref cda) cc
  outer := outer
  stack := PySem.W.ksEnv qual scope s.heap.objs.size fI (.ref cda) cc :: outer
  ex := []
  calm := true
  fn := fun _ => false
  pn := []
  xe := fun _ _ => False
section
variable {P : Program} {w : World} {K : PySem.W.Frag} {mg : Str → Option Value} {base : Heap} {C fI : Addr} {x f : Str} {fd : FuncData}
theorem init_ok (F : XF P K C x f fI fd) (hms : mg "super" = none) : FnOk P w K mg base (L2.CX P w) 1 fI fd ["self", f] (spIni C f) := by
  refine ⟨fun vs H Q E ⟨_, _, e, _⟩ => by rw [e]; rfl, fun A outer s H args us vs Q E hr e0 hb r hsp => ?_⟩
  obtain ⟨oc, od, an, osl, qual, args', body, scope, kV, doc, pm, ct, cc, cda, a1, as, cdD, cl, ccl, cld, cdd, csl, ccs, vsC, file, tf, q1, q2, q3, q4, q5, q6, q7, q8, q9, q10, lk, rfl, hcd, hpar, hself, hcode, hfl, hfile, hcell, hclD, hmro, hsup, hsubV, hop, kd, kco, kge, ls, lf, lsu, lcl, nc, nf, htop, nfs, nfd, nfc, hline, rfl⟩ := F.fn
  obtain ⟨a, v, rfl, ha, hq⟩ := hsp
  have KX : K.In s.heap := e0.mod.kin.keeps fun b o e => (e0.bs b o e).1
  have lim : s.heap.NoLimit := e0.mod.nolimit.keeps fun b o e => (e0.bs b o e).1
  cases r with
  | @cons _ u0 _ ur ra rw' =>
  cases rw' with
  | @cons _ u _ ur2 ru rn =>
  cases rn
  obtain rfl : u0 = Value.ref a := ra
  refine PySem.ks_codeAny_call_defAt (binds := [("self", .ref a), (f, u)]) hr.depth (KX _ _ lk) rfl lim (PySem.W.codeRec_of KX hcd) rfl hb nc (fun y hy => ?_) (fun h₁ hns hk => ?_) kco kge kd
  · rcases List.mem_cons.mp hy with e | hy
    · rw [e]; exact ls
    · rw [List.mem_singleton.mp hy]; exact lf
  have hsz : H s.heap.objs.size = none := e0.hok.fresh (Nat.le_refl _)
  have ccb : H cc = none := (e0.bs cc _ (e0.mod.kin _ _ hcell)).2
  have clk : ∀ (y : Str) (c : Addr), (PySem.W.ksEnv qual scope s.heap.objs.size fI (.ref cda) cc).cells.lookup y = some c → y = "__class__" ∧ c = cc := fun y c h => by
    have h : (match y == ("__class__" : Str) with | true => some cc | false => List.lookup y []) = some c := h
    cases e : y == ("__class__" : Str) with
    | true => rw [e] at h; exact ⟨beq_iff_eq.mp e, (Option.some.inj h).symm⟩
    | false => rw [e] at h; cases h
  have I : Inv (cxI P w K mg base f qual scope fI cda cc A outer s H) [] [some (.ref a), some v] H { s with heap := h₁, toks := s.toks + 2 } := by
    refine ⟨⟨e0.mod, kd, rfl, rfl, Nat.le_refl _, fun y z c h1 h2 => ?_, fun y hy => ?_, (fun y c h _ => nomatch h), fun _ => hr.hd, Around.frames_deeper e0.frames, .inr ⟨rfl, rfl⟩, (fun b z => absurd (show b ∈ ([] : List Addr) from z) (by simp)), e0.bs, e0.bsz, (fun b _ _ z => absurd (show b ∈ ([] : List Addr) from z) (by simp)), (fun b z => absurd (show b ∈ ([] : List Addr) from z) (by simp)), e0.funs, e0.frf⟩,
      rfl, e0.bare, Un.kept hk, ⟨_, hns, fun i y v h1 h2 h3 => ?_⟩, fun y c h => ?_, hsz, fun y c h => ?_, fun p hp => absurd (show p ∈ ([] : List (Addr × Obj)) from hp) (by simp), e0.hok.kept hk, rfl⟩
    · rw [(clk y c h1).1, (clk z c h2).1]
    · rcases hy with hy | hy
      · exact absurd rfl (nc _ (PySem.mem_of_lookup hy))
      · exact ⟨cc, by rw [show y = "__class__" from nf _ (PySem.mem_of_lookup hy) rfl]; rfl⟩
    · match i with
      | 0 =>
        cases h1; cases h2
        refine ⟨.ref a, rfl, .inl ⟨ls, ?_⟩⟩
        show (match ("self" : Str) == f with | true => some u | false => List.lookup ("self" : Str) [(("self" : Str), Value.ref a)]) = _
        rw [beq_eq_false_iff_ne.mpr (Ne.symm nfs)]
        rfl
      | 1 =>
        cases h1; cases h2
        refine ⟨u, ru, .inl ⟨lf, ?_⟩⟩
        show (match f == f with | true => some u | false => List.lookup f [(("self" : Str), Value.ref a)]) = _
        rw [beq_self_eq_true]
      | i + 2 => cases h2
    · rw [(clk y c h).2]
      exact ⟨_, _, hk _ _ (KX _ _ hcell), rfl⟩
    · rw [(clk y c h).2]; exact ccb
  show PySem.wpAt (model P w) (cxI P w K mg base f qual scope fI cda cc A outer s H).A _ (execs _ (cxI P w K mg base f qual scope fI cda cc A outer s H).env) _ _ _
  obtain ⟨t1, ho⟩ := exo_at I.hok ha
  refine PySem.ks_wpAt_execs_cons (PySem.ks_wpAt_Expr_any (PySem.ks_wpAt_MethodCall ?_ (mc_eq rfl hline)) I.quiet rfl)
  have hself' : (PySem.W.ksFn "__init__" qual args' ([.Expr (.Call (.Attribute (.Call (.Name "super" q1) [] [] q2) "__init__" q3) [.Name f q4] [] q5) q6, .Assign [.Attribute (.Name "self" q7) f q8] (.Name f q9) q10]) scope .none kV doc pm an (.ref cda) ct cc).params.posonlyargs ++ (PySem.W.ksFn "__init__" qual args' ([.Expr (.Call (.Attribute (.Call (.Name "super" q1) [] [] q2) "__init__" q3) [.Name f q4] [] q5) q6, .Assign [.Attribute (.Name "self" q7) f q8] (.Name f q9) q10]) scope .none kV doc pm an (.ref cda) ct cc).params.args = a1 :: as := hpar
  obtain ⟨nmC, qC, NC, bsC, bmC, snC, subC, abC, colC, ddC, k0C, k1C, k2C, k3C, k5C, hC, hbmC⟩ := F.oex.cls
  have hC1 := I.kIn _ _ hC
  obtain ⟨mb, hb1, hb2⟩ := I.mod.blt
  have v0 : ([("self", Value.ref a), (f, u)] : List (Str × Value)).reverse.lookup ("self" : Str) = some (.ref a) := by
    show (match ("self" : Str) == f with | true => some u | false => List.lookup ("self" : Str) [(("self" : Str), Value.ref a)]) = _
    rw [beq_eq_false_iff_ne.mpr (Ne.symm nfs)]
    rfl
  have v1 : ([("self", Value.ref a), (f, u)] : List (Str × Value)).reverse.lookup f = some u := by
    show (match f == f with | true => some u | false => List.lookup f [(("self" : Str), Value.ref a)]) = _
    rw [beq_self_eq_true]
  refine PySem.ks_wpAt_super_base (ar := a1) (f := fI) lsu lcl (by decide) rfl (I.kIn _ _ lk) rfl (by rw [hself']; rfl) rfl (I.kIn _ _ hcode) rfl hfl hfile htop ?_
  refine PySem.W.ks_loadName_global (env := (cxI P w K mg base f qual scope fI cda cc A outer s H).env) kd lsu ?_
  refine Calls.loadGlobal_builtin (env := (cxI P w K mg base f qual scope fI cda cc A outer s H).env) (I.mod.glob.keeps I.bk) hms (hb1.keeps I.bk) ((hb2 "super" (by decide)).trans (by first | boot_by_name | rfl | kernel_rfl)) ?_
  refine ⟨rfl, ?_⟩
  refine wpAny_loadName_free (env := (cxI P w K mg base f qual scope fI cda cc A outer s H).env) kd lcl (by rfl) ⟨_, I.kIn _ _ hcell, rfl⟩ ?_
  refine wpAny_loadName_local (env := (cxI P w K mg base f qual scope fI cda cc A outer s H).env) kd (by rw [hself]; exact ls) hns (by rw [hself]; exact v0) ?_
  refine PySem.ks_wpAny_isType_cls hC1 rfl ⟨rfl, ?_⟩
  refine PySem.ks_wpAny_call_super hC1 rfl ho rfl (fun c e => nomatch e) (PySem.W.looks_mroIn I.kIn hmro) (fun h2 e2 k2 => ?_)
  have I1 : Inv (cxI P w K mg base f qual scope fI cda cc A outer s H) [] [some (.ref a), some v] H { s with heap := h2, toks := s.toks + 2 } := I.kept k2
  have ia : PySem.W.InstAt h2 a ({ cls := .ref C, dict := none, data := .fields #[.ref t1, .none, .none, .none, .bool false, .none] } : Obj) C none := ⟨k2 _ _ ho, rfl, rfl, trivial⟩
  have nsup : PySem.W.alongIn K "__init__" ((cdD.mro.dropWhile (· != .ref C)).drop 1) = some (some (.builtin "ValueError.__init__")) := by
    unfold PySem.W.ks_superIn at hsup
    rw [hclD] at hsup
    exact hsup
  refine PySem.W.kxs_getMethod PySem.W.kxs_ValueError e2 (PySem.W.looks_opaque I1.kIn hop) (l₀ := cdD.mro) (fun A Q E s k q => wpAny_bind ((PySem.W.looks_clsIn I1.kIn hclD) A _ E s k (wpAny_pure q))) rfl I1.kIn nsup (ia.type.andThen (PySem.W.looks_subIn I1.kIn hsubV)) (PySem.W.ks_ne I1.kIn ia hclD) (by decide) ?_
  have k3 : ∀ b o, h2.get? b = some o → (h2.push (PySem.W.kxs_mw "ValueError.__init__" a)).get? b = some o := fun b o e => Heap.get?_push_of_some _ e
  have I2 : Inv (cxI P w K mg base f qual scope fI cda cc A outer s H) [] [some (.ref a), some v] H { s with heap := h2.push (PySem.W.kxs_mw "ValueError.__init__" a), toks := s.toks + 2 + 1 } := I1.kept (t' := s.toks + 2 + 1) k3
  refine PySem.W.kxs_callWith (i := "ValueError.__init__") (x := a) rfl (Calls.evalArgs_plain ?_)
  show wpAny _ _ (spliced ((false, eval (.Name f q4) (PySem.W.ksEnv qual scope s.heap.objs.size fI (.ref cda) cc)) :: backTo q5 (starEach [] (PySem.W.ksEnv qual scope s.heap.objs.size fI (.ref cda) cc)))) _ _ _
  refine Calls.spliced_cons (wpAny_Name (wpAny_loadName_local kd lf (hns.keeps fun b o e => k3 _ _ (k2 _ _ e)) v1 ?_) nfd)
  refine Calls.spliced_nil ⟨Heap.get?_push_size _ rfl, ?_⟩
  refine bw_call (C := C) (t0 := t1) (I2.kIn _ _ hC) (k3 _ _ (k2 _ _ ho)) (Heap.get?_push_size _ rfl) (by show 1 ≤ sizeLine; decide) (fun h4 t4 k4 e4 => ?_)
  have eu : upd H a (exo a C none) = H := by
    funext b
    by_cases hb : b = a
    · rw [hb, upd_same, ha]
    · rw [upd_ne hb]
  have I4 : Inv (cxI P w K mg base f qual scope fI cda cc A outer s H) [] [some (.ref a), some v] H { s with heap := h4, toks := s.toks + 2 + 1 } := by
    have J := I2.write (t' := s.toks + 2 + 1) (x := a) (e := a) (o := exo a C none) (by rw [ha]; exact True.intro) (.inl rfl) k4 ⟨_, e4⟩ (exo_ok e4)
    rw [eu] at J
    exact J
  refine PySem.ks_wpAt_execs_cons (PySem.ks_wpAt_Assign_Attr (PySem.wpAt_of_wpAny ?_))
  refine wpAny_mono ((pe_var (X := cxI P w K mg base f qual scope fI cda cc A outer s H) (pos := q9) (i := 1) (x := f) rfl (.inl lf) nfd nfc).run [] _ [some (.ref a), some v] H (fun v' H' => v' = v ∧ H' = H) I4 ⟨v, rfl, rfl, rfl⟩) (fun u5 s5 h5 => ?_) (fun _ _ z => False.elim z)
  obtain ⟨v5, H5, I5, r5, rfl, rfl⟩ := h5
  refine wpAny_mono ((pe_var (X := cxI P w K mg base f qual scope fI cda cc A outer s H5) (pos := q7) (i := 0) (x := "self") rfl (.inl ls) (by decide) (by decide)).run [] _ [some (.ref a), some v5] H5 (fun v' H' => v' = .ref a ∧ H' = H5) I5 ⟨.ref a, rfl, rfl, rfl⟩) (fun u6 s6 h6 => ?_) (fun _ _ z => False.elim z)
  obtain ⟨v6, H6, I6, r6, rfl, rfl⟩ := h6
  obtain rfl : u6 = Value.ref a := r6
  refine ost_new F.oex I6 ha F.hno r5 (fun dx s7 n1 n2 I7 => ?_)
  exact PySem.wpAt_of_wpAny (wpAny_execs_nil ⟨.non, _, I7.os, I7.bare, I7.base, I7.hok, rfl, hq dx n1 n2⟩)
end
end Ev
/-! Ev34: an error with one field is made. -/
namespace Ev
open PySem PySem.Spec PyProof.Rows L2
theorem PE.mono {X : Cx} {a : Expr} {ta : TE} (h : PE X a ta) : PE X a (fun σ H Q => ∃ Q0, ta σ H Q0 ∧ ∀ v H', Q0 v H' → Q v H') := ⟨fun pins s σ H Q I ⟨Q0, h0, hq⟩ => thn (h.run pins s σ H Q0 I h0) fun u s1 ⟨v, H1, I1, r1, q1⟩ => ⟨v, H1, I1, r1, hq v H1 q1⟩⟩
section
variable {W : Wd} {X : Cx} {C fI : Addr} {x f : Str} {fd : FuncData}
theorem fex_of (F : XF X.prog X.K C x f fI fd) (hms : X.mg "super" = none) (hm : X.mg x = some (.ref C)) (hr : Room 2 X.A) (hdb : (x == ("__debug__" : Str)) = false) (hA : W.exA x (.ref C)) (hF : W.exF x f) : FExAt W X x := by
  refine ⟨C, f, hA, hF, fun a p p3 ta ha hn hg => ?_⟩
  have hs := star_of hn [] X.env
  have F1 := init_ok (w := X.w) (base := X.base) F hms
  have pm := pmk_oex (p := p) (pos := p3) F.oex F.iC F.tI F1 hr F.bnd .nil passL hg hm (pa_cons (PE.mono ha) pa_nil hs) hdb hs (by rfl)
  intro pins s σ H Q I h
  refine pm pins s σ H Q I ⟨_, h, fun v H1 hq => ⟨by show 1 ≤ 1000; decide, fun e he => ⟨e, v, rfl, L2.upd_same, fun dx n1 n2 => ⟨rfl, dx, [(f, v)], L2.upd_same, ?_, ?_, ?_⟩⟩⟩⟩
  · rw [L2.upd_ne n2, L2.upd_same]
  · rw [L2.upd_ne n2] at n1; exact n1
  · have n3 : H1 dx = none := by rw [L2.upd_ne n2] at n1; exact n1
    have eq : L2.upd (L2.del (L2.upd (L2.upd (L2.upd H1 e (exo e C none)) dx (exd dx [(f, v)])) e (exo e C (some dx))) e) dx (.xd [(f, v)]) = L2.upd H1 dx (.xd [(f, v)]) := by
      funext b
      by_cases h1 : b = dx
      · rw [h1, L2.upd_same, L2.upd_same]
      · rw [L2.upd_ne h1, L2.upd_ne h1]
        by_cases h2 : b = e
        · rw [h2, L2.del_same, he]
        · rw [L2.del_ne h2, L2.upd_ne h2, L2.upd_ne h1, L2.upd_ne h2]
    rw [eq]
    exact hq dx n3
end
end Ev
/-! Ev35: a text's end: what the head leaves makes the facts of the text. -/
namespace Ev
open PySem PySem.Spec PyProof.Rows L2
/-- what the written part says of a def -/
structure FK (K : PySem.W.Frag) (x : Str) (st : Stmt) (f : Addr) (cdv : Value) : Prop where
  ns : PySem.W.nsIn K mainGlobals x = some (some (.ref f))
  ex : ∃ (oc : Value) (od an : Option Addr) (kV doc pm ct : Value) (osl : Array (Option Value)), K.lookup f = some ⟨oc, od, .func (PySem.W.fnOf x x (defArgs st) (defBody st) (defScope st) .none kV doc pm an cdv ct), osl⟩
  cd : PySem.W.codeIn K cdv x = true
  kp : PySem.W.keepIn K (.ref f) = true
theorem FK.of {K : PySem.W.Frag} {x : Str} {st : Stmt} {f : Addr} {oc : Value} {od an : Option Addr} {osl : Array (Option Value)} {kV doc pm cdv ct : Value} (a : PySem.W.nsIn K mainGlobals x = some (some (.ref f)))
    (l : K.lookup f = some ⟨oc, od, .func (PySem.W.fnOf x x (defArgs st) (defBody st) (defScope st) .none kV doc pm an cdv ct), osl⟩) (c : PySem.W.codeIn K cdv x = true) (k : PySem.W.keepIn K (.ref f) = true) : ∃ f cdv, FK K x st f cdv := ⟨f, cdv, a, ⟨_, _, _, _, _, _, _, _, l⟩, c, k⟩
/-- the table of a code object -/
def tabAt (K : PySem.W.Frag) (v : Value) : Addr := match v with
  | .ref c => match K.lookup c with
    | some ⟨_, _, .fields vs, _⟩ => (match (vs[11]? : Option Value) with
      | some (.ref P) => P
      | _ => 0)
    | _ => 0
  | _ => 0
def cdHd (K : PySem.W.Frag) (v : Value) : Bool := match v with
  | .ref c => PySem.W.codeHdIn K c (tabAt K v)
  | _ => false
/-- a def that makes lambdas -/
structure FL (K : PySem.W.Frag) (ts : List Addr) (x : Str) (st : Stmt) (f : Addr) (cdv : Value) : Prop extends FK K x st f cdv where
  hd : cdHd K cdv = true
  mem : ts.contains (tabAt K cdv) = true
  no : (K.lookup (tabAt K cdv)).isNone = true
  ng : (tabAt K cdv == mainGlobals) = false
theorem FL.of {K : PySem.W.Frag} {ts : List Addr} {x : Str} {st : Stmt} {f : Addr} {oc : Value} {od an : Option Addr} {osl : Array (Option Value)} {kV doc pm cdv ct : Value} (a : PySem.W.nsIn K mainGlobals x = some (some (.ref f)))
    (l : K.lookup f = some ⟨oc, od, .func (PySem.W.fnOf x x (defArgs st) (defBody st) (defScope st) .none kV doc pm an cdv ct), osl⟩) (c : PySem.W.codeIn K cdv x = true) (k : PySem.W.keepIn K (.ref f) = true)
    (h1 : cdHd K cdv = true) (h2 : ts.contains (tabAt K cdv) = true) (h3 : (K.lookup (tabAt K cdv)).isNone = true) (h4 : (tabAt K cdv == mainGlobals) = false) : ∃ f cdv, FL K ts x st f cdv := ⟨f, cdv, ⟨a, ⟨_, _, _, _, _, _, _, _, l⟩, c, k⟩, h1, h2, h3, h4⟩
theorem kb_of {K : PySem.W.Frag} {fd : FuncData} {ps ks : List Str} {n m : Nat} {p : List Nat} (hp : ps.length ≠ 0) (h : ∀ us ws : List Value, us.length = n → ws.length = m → bindArgs fd ⟨us, ks.zip ws⟩ = pure (ps.zip (permL p (us ++ ws)))) :
    KBinds K fd ps ks (permG n m p) (permG n m p) where
  to := fun s us ws _ hl => by
    unfold permG at hl ⊢
    split at hl
    · rename_i c
      rw [if_pos c]
      exact .of_eq (h us ws c.1 c.2)
    · exact absurd hl.symm hp
  rel := fun {vs us zs ws} r rz => by
    unfold permG
    rw [r.length, rz.length]
    split
    · exact permL_vals (r.append rz) _
    · exact .nil
theorem exm_of {K : PySem.W.Frag} {cls : Value} {S : Addr} (h : PySem.W.exmOne K cls (.ref S) = some true) : PySem.W.exmOne K cls (.ref S) = some true := h
/-! ### what the text says, looked up -/
def veTail : List Value := [.type "ValueError", .type "Exception", .type "BaseException", .type "object"]
def xcB (K : PySem.W.Frag) (C : Addr) : Bool := (PySem.W.clsIn K C).isSome && (decide (PySem.W.findIn K (.ref C) "__getattribute__" = some (some (.builtin "BaseException.__getattribute__"))) && ((PySem.W.findIn K (.ref C) "__getattr__").isSome &&
  (decide (PySem.W.subIn K (.ref C) (.type "BaseException") = some true) && (decide (PySem.W.findIn K (.ref C) "__class__" = some (some (.builtin "object.__class__"))) && (decide (PySem.W.specialIn K (.builtin "object.__class__") "__get__" = some (some (.builtin "getset_descriptor.__get__"))) &&
  (decide (PySem.W.takesIn K (.builtin "object.__class__") = some true) && decide (PySem.W.mroIn K C (.type "object") = some true)))))))
theorem xcB_ok {K : PySem.W.Frag} {C : Addr} (h : xcB K C = true) : XC K C := by
  obtain ⟨h1, h⟩ := Bool.and_eq_true_iff.mp h
  obtain ⟨h2, h⟩ := Bool.and_eq_true_iff.mp h
  obtain ⟨h3, h⟩ := Bool.and_eq_true_iff.mp h
  obtain ⟨h4, h⟩ := Bool.and_eq_true_iff.mp h
  obtain ⟨h5, h⟩ := Bool.and_eq_true_iff.mp h
  obtain ⟨h6, h⟩ := Bool.and_eq_true_iff.mp h
  obtain ⟨h7, h8⟩ := Bool.and_eq_true_iff.mp h
  exact ⟨h1, of_decide_eq_true h2, h3, of_decide_eq_true h4, of_decide_eq_true h5, of_decide_eq_true h6, of_decide_eq_true h7, of_decide_eq_true h8⟩
/-- the address of a class of the text -/
def clAt (K : PySem.W.Frag) (x : Str) : Addr := match PySem.W.nsIn K mainGlobals x with
  | some (some (.ref C)) => C
  | _ => 0
def nsC (K : PySem.W.Frag) (x : Str) : Bool := decide (PySem.W.nsIn K mainGlobals x = some (some (.ref (clAt K x))))
def exB (K : PySem.W.Frag) (C : Addr) : Bool := PySem.W.excIn K C veTail "ValueError.__new__" && (PySem.W.keepIn K (.ref C) && decide (PySem.W.typeIn K (.ref C) = some (.type "type")))
/-- every class of errors, and how they stand to each other -/
def clsB (K : PySem.W.Frag) (subs : List (Str × List Str)) : Bool := subs.all fun p => nsC K p.1 && (xcB K (clAt K p.1) && subs.all fun q => decide (PySem.W.kitOne K (.ref (clAt K p.1)) (.ref (clAt K q.1)) = some (p.2.contains q.1)))
def excsB (K : PySem.W.Frag) (excs : List Str) : Bool := excs.all fun x => exB K (clAt K x)
def exmB (K : PySem.W.Frag) (subs : List (Str × List Str)) (S : Str) : Bool := subs.all fun p => decide (PySem.W.exmOne K (.ref (clAt K p.1)) (.ref (clAt K S)) = some true)
def nonB (K : PySem.W.Frag) (xs : List Str) : Bool := xs.all fun x => decide (PySem.W.nsIn K mainGlobals x = some none)
/-- a constant -/
def repB (K : PySem.W.Frag) : Nat → Value → D → Bool
  | _, .none, .non => true
  | _, .bool b, .bl c => b == c
  | _, .int i _, .int j => i == j
  | _, .str x _, .str y => x == y
  | n + 1, .ref a, .tup ds => match K.lookup a with
    | some ⟨.type "tuple", _, .seq its _, _⟩ => decide (its.size ≤ 1000) && decide (its.size = ds.length) && (its.toList.zip ds).all fun p => repB K n p.1 p.2
    | _ => false
  | _, _, _ => false
theorem repB_ok {W : Wd} {K : PySem.W.Frag} (hK : W.K = K) : ∀ {n : Nat} {u : Value} {d : D}, repB K n u d = true → ∃ v, RelV v u ∧ ∀ F, Rep W F v d := by
  intro n
  induction n with
  | zero =>
    intro u d h
    unfold repB at h
    split at h
    · exact ⟨.non, rfl, fun _ => .non⟩
    · cases eq_of_beq h; exact ⟨.bl _, rfl, fun _ => .bl _⟩
    · cases eq_of_beq h; exact ⟨.int _, ⟨_, rfl⟩, fun _ => .int _⟩
    · cases eq_of_beq h; exact ⟨.str _, ⟨_, rfl⟩, fun _ => .str _⟩
    · rename_i q; cases q
    · cases h
  | succ n ih =>
    intro u d h
    unfold repB at h
    split at h
    · exact ⟨.non, rfl, fun _ => .non⟩
    · cases eq_of_beq h; exact ⟨.bl _, rfl, fun _ => .bl _⟩
    · cases eq_of_beq h; exact ⟨.int _, ⟨_, rfl⟩, fun _ => .int _⟩
    · cases eq_of_beq h; exact ⟨.str _, ⟨_, rfl⟩, fun _ => .str _⟩
    · rename_i n' a ds q
      cases q
      split at h
      case h_2 => cases h
      rename_i dd its k sl hl
      rw [Bool.and_eq_true, Bool.and_eq_true] at h
      obtain ⟨⟨h1, h2⟩, h3⟩ := h
      have h1 := of_decide_eq_true h1
      have h2 : its.toList.length = ds.length := of_decide_eq_true h2
      have key : ∀ (us : List Value) (ds : List D), us.length = ds.length → ((us.zip ds).all fun p => repB K n p.1 p.2) = true → ∃ vs, Vals vs us ∧ ∀ F, Reps W F vs ds := by
        intro us
        induction us with
        | nil =>
          intro ds hl _
          cases ds with
          | nil => exact ⟨[], .nil, fun _ => .nil⟩
          | cons _ _ => cases hl
        | cons u us ih2 =>
          intro ds hl ha
          cases ds with
          | nil => cases hl
          | cons d ds =>
            rw [List.zip_cons_cons, List.all_cons, Bool.and_eq_true] at ha
            obtain ⟨v, r1, r2⟩ := ih ha.1
            obtain ⟨vs, s1, s2⟩ := ih2 ds (by simpa using hl) ha.2
            exact ⟨v :: vs, .cons r1 s1, fun F => .cons (r2 F) (s2 F)⟩
      obtain ⟨vs, r1, r2⟩ := key its.toList ds h2 h3
      exact ⟨.ref a, rfl, fun F => .tup (.inr ⟨_, its, k, by rw [hK]; exact hl, rfl, rfl, Nat.le_trans h1 (by decide), r1⟩) (r2 F)⟩
    · cases h
def constB (K : PySem.W.Frag) (cons : List (Str × D)) : Bool := cons.all fun p => match PySem.W.nsIn K mainGlobals p.1 with
  | some (some u) => repB K 20 u p.2
  | _ => false
theorem findS_mem {α : Type} {l : List (Str × α)} {x : Str} {a : α} (h : (l.find? fun p => decide (p.1 = x)).map (·.2) = some a) : (x, a) ∈ l := by
  cases q : l.find? fun p => decide (p.1 = x) with
  | none => rw [q] at h; cases h
  | some p =>
    rw [q] at h
    cases h
    have e : p.1 = x := by simpa using List.find?_some q
    rw [← e]
    exact List.mem_of_find?_eq_some q
section
variable {W : Wd} {T : TB} {B : Tbl} {P : Program} {w : World} {K : PySem.W.Frag} {mg : Str → Option Value} {base : Heap}
theorem def_in {x : Str} {st : Stmt} {f : Addr} {cdv : Value} {N ps : List Str} {M : List Nat} {lam drs clo : Bool} {lamv : List Nat} {tr : Ss} (F : FK K x st f cdv) (hm : mg x = some (.ref f)) (S : FnScope N ps (defScope st)) (hl : lam = true → LamAt W base mg x cdv)
    (hb : ∀ (kV doc pm : Value) (an : Option Addr) (cdv ct : Value) (us : List Value), us.length = ps.length → bindArgs (PySem.W.fnOf x x (defArgs st) (defBody st) (defScope st) .none kV doc pm an cdv ct) ⟨us, []⟩ = pure (ps.zip us))
    (hk : ∀ (kV doc pm : Value) (an : Option Addr) (cdv ct : Value), ∀ p ∈ T.kfns, p.1 = x → KBinds K (PySem.W.fnOf x x (defArgs st) (defBody st) (defScope st) .none kV doc pm an cdv ct) ps p.2.2.1 (permG p.2.1 p.2.2.1.length p.2.2.2) (permG p.2.1 p.2.2.1.length p.2.2.2))
    (htr : trSs (T.loc N M lam drs clo lamv) (defScope st) (defBody st) = tr) (hB : B.bod x = some (ps.length, N.length, clo, tr)) : DefIn W T B K mg base x := by
  obtain ⟨oc, od, an, kV, doc, pm, ct, osl, l⟩ := F.ex
  exact ⟨f, st, oc, od, an, osl, kV, doc, pm, cdv, ct, N, ps, M, lam, drs, clo, lamv, l, F.cd, F.kp, hm, S, hl, .all (hb kV doc pm an cdv ct), hk kV doc pm an cdv ct, by rw [htr]; exact hB⟩
theorem lam_at {ts : List Addr} {x : Str} {st : Stmt} {f : Addr} {cdv : Value} {cs : List (Addr × Addr)} (F : FL K ts x st f cdv) (hc : ∀ c, cdv = .ref c → (c, tabAt K cdv) ∈ cs) (TB : ∀ p ∈ cs, LamX.TabB base mg p.1 p.2) (h1 : (tabAt K cdv, x ++ ".<locals>." ++ "<lambda>") ∈ W.tabs) (h2 : ∀ p ∈ W.tabs, p.1 = tabAt K cdv → p.2 = x ++ ".<locals>." ++ "<lambda>") :
    LamAt W base mg x cdv := by
  have h := F.hd
  cases cdv with
  | ref c => exact ⟨c, _, rfl, TB _ (hc c rfl), h1, h2⟩
  | _ => exact absurd h (by simp [cdHd])
end
end Ev
/-! Ev36: the facts of a text, put together; the end of a law. -/
namespace Ev
open PySem PySem.Spec PyProof.Rows L2 LamX
def exAK (K : PySem.W.Frag) (subs : List (Str × List Str)) (c : Str) (cls : Value) : Prop := c ∈ subs.map (·.1) ∧ cls = .ref (clAt K c)
def exFK (flds : List (Str × List Str)) (c f : Str) : Prop := (c, [f]) ∈ flds
/-- the code of a def -/
def cdOf (K : PySem.W.Frag) (x : Str) : Value := match PySem.W.nsIn K mainGlobals x with
  | some (some (.ref f)) => match K.lookup f with
    | some ⟨_, _, .func fd, _⟩ => fd.code
    | _ => .none
  | _ => .none
def vA : Value → Addr
  | .ref c => c
  | _ => 0
def cdA (K : PySem.W.Frag) (x : Str) : Addr := vA (cdOf K x)
theorem FK.code {K : PySem.W.Frag} {x : Str} {st : Stmt} {f : Addr} {cdv : Value} (F : FK K x st f cdv) : cdOf K x = cdv := by
  obtain ⟨oc, od, an, kV, doc, pm, ct, osl, l⟩ := F.ex
  unfold cdOf
  rw [F.ns]
  dsimp only
  rw [l]
def lamQ (x : Str) : Str := x ++ ".<locals>." ++ "<lambda>"
def tabsK (K : PySem.W.Frag) (lams : List Str) : List (Addr × Str) := lams.map fun x => (tabAt K (cdOf K x), lamQ x)
def csK (K : PySem.W.Frag) (lams : List Str) : List (Addr × Addr) := lams.map fun x => (cdA K x, tabAt K (cdOf K x))
def lamB (K : PySem.W.Frag) (ts : List Addr) (lams : List Str) : Bool := lams.all fun x => cdHd K (cdOf K x) && (ts.contains (tabAt K (cdOf K x)) && ((K.lookup (tabAt K (cdOf K x))).isNone && (!(tabAt K (cdOf K x) == mainGlobals) && (tabsK K lams).all fun p => !(p.1 == tabAt K (cdOf K x)) || p.2 == lamQ x)))
/-- what the written part says of the text -/
structure TxK (K : PySem.W.Frag) (ts : List Addr) (T : TB) (lams : List Str) (subs flds : List (Str × List Str)) (cons : List (Str × D)) : Prop where
  cl : clsB K subs = true
  ex : excsB K T.excs = true
  em : exmB K subs "StepError" = true
  nn : nonB K ("super" :: bltNames) = true
  gc : T.gcd = true → PySem.W.nsIn K mainGlobals "gcd" = some (some (.builtin "math.gcd"))
  cs : constB K cons = true
  lm : lamB K ts lams = true
  fl : (flds.all fun p => decide (p.1 ∈ subs.map (·.1)) && xfB K (clAt K p.1) && p.2.all fun f => decide (PySem.W.findIn K (.ref (clAt K p.1)) f = some none)) = true
  nd : (decide ((flds.map (·.1)).Nodup) && decide ((subs.map (·.1)).Nodup)) = true
  sb : (T.excs ++ T.fexcs).all (fun x => decide (x ∈ subs.map (·.1))) = true
  ff : T.fexcs.all (fun x => !(x == ("__debug__" : Str)) && (flds.find? fun p => decide (p.1 = x)).any fun p => p.2.length == 1) = true
section
variable {W : Wd} {T : TB} {P : Program} {w : World} {K : PySem.W.Frag} {mg : Str → Option Value} {base h : Heap} {ts : List Addr} {lams : List Str} {subs flds : List (Str × List Str)} {cons : List (Str × D)} {bods : List (Str × Nat × Nat × Bool × Ss)}
def mkTbl (bods : List (Str × Nat × Nat × Bool × Ss)) (cons : List (Str × D)) (subs flds : List (Str × List Str)) : Tbl where
  bod := fun x => (bods.find? fun p => decide (p.1 = x)).map (·.2)
  glob := fun x => (cons.find? fun p => decide (p.1 = x)).map (·.2)
  sub := fun x => ((subs.find? fun p => decide (p.1 = x)).map (·.2)).getD []
  fields := fun x => ((flds.find? fun p => decide (p.1 = x)).map (·.2)).getD []
theorem find_nodup {α : Type} : ∀ {l : List (Str × α)} {x : Str} {a : α}, (l.map (·.1)).Nodup → (x, a) ∈ l → (l.find? fun p => decide (p.1 = x)).map (·.2) = some a
  | [], _, _, _, m => nomatch m
  | (y, b) :: l, x, a, n, m => by
    rw [List.map_cons, List.nodup_cons] at n
    rcases List.mem_cons.mp m with e | m
    · cases e; simp
    · have ne : y ≠ x := fun e => n.1 (by rw [e]; exact List.mem_map.mpr ⟨_, m, rfl⟩)
      rw [List.find?_cons_of_neg (by simpa using ne)]
      exact find_nodup n.2 m
theorem mem_fst {α : Type} {l : List (Str × α)} {x : Str} (h : x ∈ l.map (·.1)) : ∃ a, (x, a) ∈ l := by
  obtain ⟨⟨y, a⟩, m, rfl⟩ := List.mem_map.mp h
  exact ⟨a, m⟩
theorem TxK.cls (F : TxK K ts T lams subs flds cons) {c : Str} (hc : c ∈ subs.map (·.1)) : PySem.W.nsIn K mainGlobals c = some (some (.ref (clAt K c))) ∧ XC K (clAt K c) ∧ ∀ x ∈ subs.map (·.1), PySem.W.kitOne K (.ref (clAt K c)) (.ref (clAt K x)) = some (((mkTbl bods cons subs flds).sub c).contains x) := by
  obtain ⟨a, m⟩ := mem_fst hc
  have h := List.all_eq_true.mp F.cl _ m
  rw [Bool.and_eq_true, Bool.and_eq_true] at h
  obtain ⟨h1, h2, h3⟩ := h
  refine ⟨of_decide_eq_true h1, xcB_ok h2, fun x hx => ?_⟩
  obtain ⟨b, m2⟩ := mem_fst hx
  have nd := F.nd
  rw [Bool.and_eq_true] at nd
  have e : (mkTbl bods cons subs flds).sub c = a := by
    show ((subs.find? fun p => decide (p.1 = c)).map (·.2)).getD [] = a
    rw [find_nodup (of_decide_eq_true nd.2) m]; rfl
  rw [e]
  exact of_decide_eq_true (List.all_eq_true.mp h3 _ m2)
/-- the facts of a text, put together -/
theorem txt_mk (F : TxK K ts T lams subs flds cons) (X : K.In h) (G : h.Ns mainGlobals mg) (hK : W.K = K) (hA : W.exA = exAK K subs) (hF : W.exF = exFK flds) (hno : ∀ o t c, ¬ W.cloA o t c) (hkd : ∀ p ∈ T.kfns, T.fns.contains p.1 = true)
    (hd : ∀ x, T.fns.contains x = true → DefIn W T (mkTbl bods cons subs flds) K mg base x) (hcg : ∃ (g : Addr) (st : Stmt) (fd : FuncData), CgDef K mg (clAt K "StepError") st g fd)
    (hx : ∀ x f, T.fexcs.contains x = true → exFK flds x f → ∃ fI fd, XF P K (clAt K x) x f fI fd) : Txt W T (mkTbl bods cons subs flds) P w K mg base := by
  have sb := List.all_eq_true.mp F.sb
  have sbm : ∀ {x}, (T.excs.contains x || T.fexcs.contains x) = true → x ∈ subs.map (·.1) := fun {x} hx => by
    refine of_decide_eq_true (sb x ?_)
    rw [Bool.or_eq_true] at hx
    rw [List.mem_append]
    exact hx.imp List.contains_iff_mem.mp List.contains_iff_mem.mp
  have mgc : ∀ {x}, x ∈ subs.map (·.1) → mg x = some (.ref (clAt K x)) := fun {x} hx => PySem.W.mg_of X G (F.cls (bods := bods) hx).1
  have nn := List.all_eq_true.mp F.nn
  have nd := F.nd
  rw [Bool.and_eq_true] at nd
  refine { hK := hK.symm, blt := fun x hx => PySem.W.mg_none_of X G (of_decide_eq_true (nn x (List.mem_cons_of_mem _ hx))), gcd := fun z => PySem.W.mg_of X G (F.gc z), defs := hd, kdefs := hkd, consts := fun x _ d e => ?_, isc := fun x hx => ?_, exs := fun Xc e1 e2 x hx => ?_, cg := ?_, noclo := hno, fld := fun c cls f h1 h2 => ?_, fexs := fun Xc e1 e2 e3 e4 e5 hc hr x hx' => ?_ }
  · have m := findS_mem e
    have z := List.all_eq_true.mp F.cs _ m
    dsimp only at z
    split at z
    · rename_i u hu
      obtain ⟨v, r1, r2⟩ := repB_ok hK z
      exact ⟨v, u, PySem.W.mg_of X G hu, r1, r2⟩
    · cases z
  · refine isc_of (mgc (sbm hx)) fun c cls hc => ?_
    rw [hA] at hc
    obtain ⟨h1, rfl⟩ := hc
    obtain ⟨k1, k2, k3⟩ := F.cls (bods := bods) h1
    exact ⟨_, rfl, k2, k3 x (sbm hx)⟩
  · have hs := sbm (by rw [hx]; rfl)
    have z := List.all_eq_true.mp F.ex x (List.contains_iff_mem.mp hx)
    unfold exB at z
    rw [Bool.and_eq_true, Bool.and_eq_true] at z
    obtain ⟨k1, k2, k3⟩ := F.cls (bods := bods) hs
    refine ⟨clAt K x, "ValueError", "ValueError.__new__", "ValueError.__init__", _, PySem.F.excBase_ValueError, by rw [e1]; exact z.1, by rw [e2]; exact mgc hs, by rw [e1]; exact z.2.1, by rw [e1]; exact k2.hs, by rw [e1]; exact of_decide_eq_true z.2.2, by rw [hA]; exact ⟨hs, rfl⟩⟩
  · obtain ⟨g, st, fd, h1⟩ := hcg
    refine ⟨g, _, st, fd, h1, fun c cls hc => ?_⟩
    rw [hA] at hc
    obtain ⟨h2, rfl⟩ := hc
    obtain ⟨a, m⟩ := mem_fst h2
    exact of_decide_eq_true (List.all_eq_true.mp F.em _ m)
  · rw [hA] at h1
    rw [hF] at h2
    obtain ⟨h1, rfl⟩ := h1
    have z := List.all_eq_true.mp F.fl _ h2
    rw [Bool.and_eq_true, Bool.and_eq_true] at z
    refine ⟨_, rfl, xfB_ok z.1.2, of_decide_eq_true (List.all_eq_true.mp z.2 f (List.mem_singleton.mpr rfl)), ?_⟩
    show ((flds.find? fun p => decide (p.1 = c)).map (·.2)).getD [] = [f]
    rw [find_nodup (of_decide_eq_true nd.1) h2]; rfl
  · have z := List.all_eq_true.mp F.ff x (List.contains_iff_mem.mp hx')
    rw [Bool.and_eq_true] at z
    obtain ⟨z1, z2⟩ := z
    have hs := sbm (by rw [hx', Bool.or_true])
    cases q : flds.find? fun p => decide (p.1 = x) with
    | none => rw [q] at z2; cases z2
    | some p =>
      rw [q] at z2
      have z2 : (p.2.length == 1) = true := z2
      obtain ⟨c, l⟩ := p
      match l, z2 with
      | [f], _ =>
        have e : c = x := by simpa using List.find?_some q
        subst e
        have m : exFK flds c f := List.mem_of_find?_eq_some q
        obtain ⟨fI, fd, xf⟩ := hx c f hx' m
        subst e1 e2 e3
        refine fex_of xf (by rw [e4]; exact PySem.W.mg_none_of X G (of_decide_eq_true (nn _ List.mem_cons_self))) (by rw [e4]; exact mgc hs) hr (by simpa using z1) (by rw [hA]; exact ⟨hs, rfl⟩) (by rw [hF]; exact m)
/-- what a law's script gives -/
theorem law_sp {Gv : G} {n : Nat} {b : Ss} {tabs : List (Addr × Str)} {H : Hp} {a : Addr} {ns : List Int} (hT : ∀ p ∈ tabs, H p.1 = some (.tbl #[])) (hs : SqL K H a (ns.map V.int)) (hl : ns.length ≤ 1000) (hv : ∃ st, evB (G.cl Gv) b ((env0 n [.scr ns]).set 1 (some .drw)) (begun ns) = .ok (.bl true) st) :
    spLaw K tabs Gv n b [.ref a] H (fun v _ => v = .bl true) fun _ _ _ => False := by
  have tb : Tabs tabs H := fun p hp => TabS.nil (hT p hp)
  rcases hs with hs | hs
  · refine ⟨fun c => if c = a then H a else none, a, ns, ⟨fun c o e => ?_, fun c o φ fd c' e => ?_⟩, fun c q m => ?_, tb, rfl, .inl ?_, hl, hv, fun _ => rfl⟩
    · dsimp only at e
      split at e
      · rename_i q; rw [q]; exact .inl e
      · cases e
    · dsimp only at e
      split at e
      · rcases hs with hs | ⟨o2, hs⟩ <;> rw [hs] at e <;> cases e
      · cases e
    · dsimp only
      split
      · rename_i q
        have z := hT _ m
        rw [show (c, _).1 = a from q] at z
        rcases hs with hs | ⟨o2, hs⟩ <;> rw [hs] at z <;> cases z
      · rfl
    · rcases hs with hs | ⟨o2, hs⟩
      · exact .inl ((if_pos rfl).trans hs)
      · exact .inr ⟨o2, (if_pos rfl).trans hs⟩
  · exact ⟨fun _ => none, a, ns, ⟨fun c o e => (nomatch e), fun c o φ fd c' e => (nomatch e)⟩, fun _ _ _ => rfl, tb, rfl, .inr hs, hl, hv, fun _ => rfl⟩
/-- a def's lambdas are noted -/
theorem TxK.lam (F : TxK K ts T lams subs flds cons) {x : Str} {st : Stmt} {f : Addr} {cdv : Value} (hx : x ∈ lams) (Fd : FK K x st f cdv) (hW : W.tabs = tabsK K lams) (TB : ∀ p ∈ csK K lams, TabB base mg p.1 p.2) : LamAt W base mg x cdv := by
  have z := List.all_eq_true.mp F.lm x hx
  rw [Bool.and_eq_true, Bool.and_eq_true, Bool.and_eq_true, Bool.and_eq_true, Fd.code] at z
  obtain ⟨z1, z2, z3, z4, z5⟩ := z
  have m : (tabAt K cdv, lamQ x) ∈ tabsK K lams := List.mem_map.mpr ⟨x, hx, by rw [Fd.code]⟩
  have mc : (cdA K x, tabAt K cdv) ∈ csK K lams := List.mem_map.mpr ⟨x, hx, by rw [Fd.code]⟩
  have e : cdA K x = vA cdv := by unfold cdA; rw [Fd.code]
  cases cdv with
  | ref c =>
    refine ⟨c, _, rfl, TB _ (by have e : cdA K x = c := e; rw [e] at mc; exact mc), by rw [hW]; exact m, fun p hp e2 => ?_⟩
    rw [hW] at hp
    have y := List.all_eq_true.mp z5 p hp
    rw [Bool.or_eq_true] at y
    rcases y with y | y
    · rw [e2] at y; simp at y
    · exact eq_of_beq y
  | _ => exact absurd z1 (by simp [cdHd])
/-- a law, from its text -/
theorem law_at {l : PySem.W.OpenLaw} {x : Str} {fa : Addr} {lvl n : Nat} (F : TxK K ts T lams subs flds cons) (X : K.In h) (Gs : h.Ns mainGlobals mg) (hts : ∀ P ∈ ts, h.get? P = some { cls := .none, data := .fields #[] }) (hl : n ≤ 1000)
    {N : List Str} {b : Ss} (hv : ∀ ns : List Int, ns.length ≤ n → (∀ z ∈ ns, Builtin.Int.intBits z ≤ 1048576) → ∃ st, evB (G.cl (gAt (mkTbl bods cons subs flds) lvl)) b ((env0 N.length [.scr ns]).set 1 (some .drw)) (begun ns) = .ok (.bl true) st)
    {fd : FuncData} (hb : ∀ (s : Shared) (u : Value), BindsTo s fd ⟨[u], []⟩ [(x, u)])
    (hF : ∀ base : Heap, K.In base → base.Ns mainGlobals mg → (∀ p ∈ csK K lams, TabB base mg p.1 p.2) → FnOk l.prog w K mg base (L2.CX l.prog w) (3 * lvl + 3) fa fd [x] (spLaw K (tabsK K lams) (gAt (mkTbl bods cons subs flds) lvl) N.length b)) :
    LawAtS l w K (L2.CX l.prog w) (3 * lvl + 3) n x mg fa h := by
  have z := List.all_eq_true.mp F.lm
  have key : ∀ p ∈ csK K lams, ∃ y ∈ lams, p = (cdA K y, tabAt K (cdOf K y)) ∧ cdHd K (cdOf K y) = true ∧ tabAt K (cdOf K y) ∈ ts ∧ K.lookup (tabAt K (cdOf K y)) = none := fun p hp => by
    obtain ⟨y, hy, e⟩ := List.mem_map.mp hp
    have z := z y hy
    rw [Bool.and_eq_true, Bool.and_eq_true, Bool.and_eq_true, Bool.and_eq_true] at z
    exact ⟨y, hy, e.symm, z.1, List.contains_iff_mem.mp z.2.1, Option.isNone_iff_eq_none.mp z.2.2.1⟩
  refine ⟨fd, csK K lams, _, fun p hp => ?_, fun p hp => ?_, fun p hp => ?_, hb, fun H a ns h1 h2 h3 h4 => law_sp (fun p hp => ?_) h4 (Nat.le_trans h1 hl) (hv ns h1 h2), hF⟩
  · obtain ⟨y, hy, e, _, m, _⟩ := key p hp
    rw [e]; exact hts _ m
  · obtain ⟨y, hy, e, _, _, m⟩ := key p hp
    rw [e]; exact m
  · obtain ⟨y, hy, e, m, _⟩ := key p hp
    rw [e]
    have e2 : ∀ v, cdOf K y = v → PySem.W.CodeHd h (cdA K y) (tabAt K (cdOf K y)) := fun v e => by
      rw [e] at m ⊢
      have ec : cdA K y = vA v := by unfold cdA; rw [e]
      cases v with
      | ref c =>
        have ec : cdA K y = c := ec
        rw [ec]
        exact PySem.W.codeHd_of_K X m
      | _ => exact absurd m (by simp [cdHd])
    exact e2 _ rfl
  · obtain ⟨y, hy, e⟩ := List.mem_map.mp hp
    rw [← e]
    exact h3 (cdA K y, tabAt K (cdOf K y)) (List.mem_map.mpr ⟨y, hy, rfl⟩)
end
end Ev
/-! PreT: trees of defs that laws share. -/
namespace Pre
open PySem L2 Ev
def t_is_whole : Ss := (.cons (.ret (.and (.isin (.bor 0) [.int]) (.not (.isin (.bor 0) [.bool]))))
  .nil)
def t_is_ratio : Ss := (.cons (.ite (.or (.not (.isin (.bor 0) [.tuple])) (.or (.cmp .ne (.b1 .len (.bor 0)) (.int 2)) (.not (.b1 .all (.comp [1] (.nm 1) (.e (.var 0)) .nil (.call ("is_whole" : Str) (.cons (.var 1) .nil))))))) (.cons (.ret (.bl false))
  .nil) .nil)
  (.cons (.ret (.and (.cmp .gt (.ix (.bor 0) (.int 1)) (.int 0)) (.cmp .eq (.gcd (.ix (.bor 0) (.int 0)) (.ix (.bor 0) (.int 1))) (.int 1))))
  .nil))
def t_is_chance : Ss := (.cons (.ret (.and (.call ("is_ratio" : Str) (.cons (.var 0) .nil)) (.cmp2 .le .le (.int 0) (.ix (.bor 0) (.int 0)) (.ix (.bor 0) (.int 1)))))
  .nil)
def t_lowest : Ss := (.cons (.asg (.nm 2) false (.ite (.cmp .gt (.bor 1) (.int 0)) (.gcd (.bor 0) (.bor 1)) (.neg (.gcd (.bor 0) (.bor 1)))))
  (.cons (.ret (.tup (.cons (.bin .fdiv (.bor 0) (.bor 2)) (.cons (.bin .fdiv (.bor 1) (.bor 2)) .nil))))
  .nil))
def t_plus : Ss := (.cons (.ret (.call ("lowest" : Str) (.cons (.bin .add (.bin .mul (.ix (.bor 0) (.int 0)) (.ix (.bor 1) (.int 1))) (.bin .mul (.ix (.bor 1) (.int 0)) (.ix (.bor 0) (.int 1)))) (.cons (.bin .mul (.ix (.bor 0) (.int 1)) (.ix (.bor 1) (.int 1))) .nil))))
  .nil)
def t_times : Ss := (.cons (.ret (.call ("lowest" : Str) (.cons (.bin .mul (.ix (.bor 0) (.int 0)) (.ix (.bor 1) (.int 0))) (.cons (.bin .mul (.ix (.bor 0) (.int 1)) (.ix (.bor 1) (.int 1))) .nil))))
  .nil)
def t_is_less : Ss := (.cons (.ret (.cmp .lt (.bin .mul (.ix (.bor 0) (.int 0)) (.ix (.bor 1) (.int 1))) (.bin .mul (.ix (.bor 1) (.int 0)) (.ix (.bor 0) (.int 1)))))
  .nil)
def t_total : Ss := (.cons (.asg (.nm 1) false (.glob ("ZERO" : Str)))
  (.cons (.for_ (.nm 2) (.e (.var 0)) (.cons (.asg (.nm 1) false (.call ("plus" : Str) (.cons (.var 1) (.cons (.var 2) .nil))))
  .nil))
  (.cons (.ret (.var 1))
  .nil)))
def t_is_below : Ss := (.cons (.ite (.or (.not (.call ("is_ratio" : Str) (.cons (.var 0) .nil))) (.not (.call ("is_ratio" : Str) (.cons (.var 1) .nil)))) (.cons (.raise0 ("BadRatio" : Str))
  .nil) .nil)
  (.cons (.ret (.call ("is_less" : Str) (.cons (.var 0) (.cons (.var 1) .nil))))
  .nil))
def t_ratio : Ss := (.cons (.ite (.not (.call ("is_whole" : Str) (.cons (.var 0) .nil))) (.cons (.raise ("BadNumber" : Str) (.cons (.str ("n" : Str)) .nil))
  .nil) .nil)
  (.cons (.ite (.or (.not (.call ("is_whole" : Str) (.cons (.var 1) .nil))) (.cmp .eq (.bor 1) (.int 0))) (.cons (.raise ("BadNumber" : Str) (.cons (.str ("d" : Str)) .nil))
  .nil) .nil)
  (.cons (.ret (.call ("lowest" : Str) (.cons (.var 0) (.cons (.var 1) .nil))))
  .nil)))
def t_are_shares : Ss := (.cons (.ite (.or (.not (.isin (.bor 0) [.list, .tuple])) (.or (.cmp .ne (.b1 .len (.bor 0)) (.bor 1)) (.not (.b1 .all (.comp [2] (.nm 2) (.e (.var 0)) .nil (.call ("is_chance" : Str) (.cons (.var 2) .nil))))))) (.cons (.ret (.bl false))
  .nil) .nil)
  (.cons (.ret (.cmp .eq (.call ("total" : Str) (.cons (.var 0) .nil)) (.glob ("ONE" : Str))))
  .nil))
def t_need_shares : Ss := (.cons (.ite (.not (.call ("are_shares" : Str) (.cons (.var 0) (.cons (.var 1) .nil)))) (.cons (.raise0 ("BadShares" : Str))
  .nil) .nil)
  .nil)
def t_mean_of : Ss := (.cons (.ret (.call ("total" : Str) (.cons (.comp [2, 3] (.tp [2, 3]) (.zip (.var 1) (.var 0)) .nil (.call ("times" : Str) (.cons (.var 2) (.cons (.var 3) .nil)))) .nil)))
  .nil)
def t_mean : Ss := (.cons (.ite (.or (.not (.isin (.bor 0) [.list, .tuple])) (.or (.cmp .eq (.b1 .len (.bor 0)) (.int 0)) (.not (.b1 .all (.comp [2] (.nm 2) (.e (.var 0)) .nil (.call ("is_ratio" : Str) (.cons (.var 2) .nil))))))) (.cons (.raise0 ("BadRatios" : Str))
  .nil) .nil)
  (.cons (.exp (.call ("need_shares" : Str) (.cons (.var 1) (.cons (.b1 .len (.bor 0)) .nil))))
  (.cons (.ret (.call ("mean_of" : Str) (.cons (.var 0) (.cons (.var 1) .nil))))
  .nil)))
def t_is_word : Ss := (.cons (.ret (.and (.isin (.bor 0) [.str]) (.and (.cmp2 .le .le (.int 1) (.b1 .len (.bor 0)) (.int 8)) (.b1 .all (.comp [1] (.nm 1) (.e (.var 0)) .nil (.cmp .isin (.bor 1) (.glob ("LETTERS" : Str))))))))
  .nil)
def t_law_blended : Ss := (.cons (.par 1 2 (.bin .add (.dr 0 1) (.int 1)) (.int 0))
  (.cons (.drSet 0 1 (.var 1))
  (.cons (.for_ (.nm 3) (.e (.lst (.cons (.int 2147483579) (.cons (.int 2147483629) (.cons (.int 2147483563) .nil))))) (.cons (.asg (.nm 4) false (.bin .add (.bin .mul (.int 48271) (.bor 1)) (.bin .fdiv (.bor 3) (.int 53))))
  (.cons (.for_ (.nm 5) (.e (.dr 0 2)) (.cons (.asg (.nm 4) false (.bin .mod (.b1 .int (.bin .add (.bin .add (.bin .mul (.bor 4) (.int 69621)) (.bor 5)) (.bor 1))) (.bor 3)))
  .nil))
  (.cons (.asg (.nm 2) false (.bin .add (.bin .mul (.bor 2) (.int 2147483647)) (.bin .mod (.b1 .int (.bin .pow (.bor 4) (.int 5))) (.bor 3))))
  .nil))))
  (.cons (.ret (.var 2))
  .nil))))
def t_law_draw : Ss := (.cons (.ite (.cmp .eq (.dr 0 0) (.int 0)) (.cons (.drSet 0 0 (.ite (.gne 0) (.popg 0) (.call ("_law_blended" : Str) (.cons (.var 0) .nil))))
  .nil) .nil)
  (.cons (.asg (.nm 2) false (.bin .mod (.b1 .int (.dr 0 0)) (.bor 1)))
  (.cons (.drSet 0 0 (.bin .fdiv (.dr 0 0) (.bor 1)))
  (.cons (.ret (.var 2))
  .nil))))
def t_law_pick : Ss := (.cons (.ret (.ix (.bor 1) (.call ("_law_draw" : Str) (.cons (.var 0) (.cons (.b1 .len (.bor 1)) .nil)))))
  .nil)
def t_law_is_truth : Ss := (.cons (.ret (.ite (.bor 1) (.cmp .is (.bor 0) (.bl true)) (.cmp .is (.bor 0) (.bl false))))
  .nil)
def t_law_same : Ss := (.cons (.asg (.nm 2) true (.lst (.cons (.tup (.cons (.var 0) (.cons (.var 1) .nil))) .nil)))
  (.cons (.while_ (.cmp .ne (.bor 2) (.lst .nil)) (.cons (.pop (.tp [3, 4]) 2)
  (.cons (.ite (.or (.cmp .is (.bor 4) .non) (.isin (.bor 4) [.bool])) (.cons (.ite (.ite (.cmp .is (.bor 4) .non) (.cmp .isnot (.bor 3) .non) (.not (.call ("_law_is_truth" : Str) (.cons (.var 3) (.cons (.var 4) .nil))))) (.cons (.ret (.bl false))
  .nil) .nil)
  .nil) (.cons (.ite (.isin (.bor 4) [.int, .str]) (.cons (.ite (.or (.isin (.bor 3) [.bool]) (.or (.cmp .ne (.isin (.bor 3) [.int]) (.isin (.bor 4) [.int])) (.cmp .ne (.bor 3) (.bor 4)))) (.cons (.ret (.bl false))
  .nil) .nil)
  .nil) (.cons (.ite (.isin (.bor 4) [.dict]) (.cons (.ite (.or (.not (.isin (.bor 3) [.dict])) (.cmp .ne (.b1 .list (.bor 3)) (.b1 .list (.bor 4)))) (.cons (.ret (.bl false))
  .nil) .nil)
  (.cons (.ext 2 (.b1 .list .bad))
  (.cons (.ext 2 (.comp [5] (.nm 5) (.e (.var 4)) .nil (.tup (.cons (.ix (.bor 3) (.bor 5)) (.cons (.ix (.bor 4) (.bor 5)) .nil)))))
  .nil))) (.cons (.asg (.nm 6) false (.lst (.cons (.and (.isin (.bor 3) [.tuple]) (.isin (.bor 4) [.tuple])) (.cons (.and (.isin (.bor 3) [.list]) (.isin (.bor 4) [.list])) .nil))))
  (.cons (.ite (.or (.cmp .notin (.bl true) (.bor 6)) (.cmp .ne (.b1 .len (.bor 3)) (.b1 .len (.bor 4)))) (.cons (.ret (.bl false))
  .nil) .nil)
  (.cons (.ext 2 (.comp [7, 8] (.tp [7, 8]) (.zip (.var 3) (.var 4)) .nil (.tup (.cons (.var 7) (.cons (.var 8) .nil)))))
  .nil))))
  .nil))
  .nil))
  .nil)))
  (.cons (.ret (.bl true))
  .nil)))
def t_law_q : Ss := (.cons (.par 2 3 (.b1 .abs (.bor 0)) (.b1 .abs (.bor 1)))
  (.cons (.while_ (.cmp .gt (.bor 3) (.int 0)) (.cons (.par 2 3 (.var 3) (.bin .mod (.b1 .int (.bor 2)) (.bor 3)))
  .nil))
  (.cons (.ret (.ite (.cmp .gt (.bor 1) (.int 0)) (.tup (.cons (.bin .fdiv (.bor 0) (.bor 2)) (.cons (.bin .fdiv (.bor 1) (.bor 2)) .nil))) (.tup (.cons (.bin .fdiv (.neg (.bor 0)) (.bor 2)) (.cons (.bin .fdiv (.neg (.bor 1)) (.bor 2)) .nil)))))
  .nil)))
def t_law_plus : Ss := (.cons (.ret (.call ("_law_q" : Str) (.cons (.bin .add (.bin .mul (.ix (.bor 0) (.int 0)) (.ix (.bor 1) (.int 1))) (.bin .mul (.ix (.bor 1) (.int 0)) (.ix (.bor 0) (.int 1)))) (.cons (.bin .mul (.ix (.bor 0) (.int 1)) (.ix (.bor 1) (.int 1))) .nil))))
  .nil)
def t_law_times : Ss := (.cons (.ret (.call ("_law_q" : Str) (.cons (.bin .mul (.ix (.bor 0) (.int 0)) (.ix (.bor 1) (.int 0))) (.cons (.bin .mul (.ix (.bor 0) (.int 1)) (.ix (.bor 1) (.int 1))) .nil))))
  .nil)
def t_law_over : Ss := (.cons (.ret (.call ("_law_q" : Str) (.cons (.bin .mul (.ix (.bor 0) (.int 0)) (.ix (.bor 1) (.int 1))) (.cons (.bin .mul (.ix (.bor 0) (.int 1)) (.ix (.bor 1) (.int 0))) .nil))))
  .nil)
def t_law_less : Ss := (.cons (.ret (.cmp .lt (.bin .mul (.ix (.bor 0) (.int 0)) (.ix (.bor 1) (.int 1))) (.bin .mul (.ix (.bor 1) (.int 0)) (.ix (.bor 0) (.int 1)))))
  .nil)
def t_law_sum : Ss := (.cons (.asg (.nm 1) false (.tup (.cons (.int 0) (.cons (.int 1) .nil))))
  (.cons (.for_ (.nm 2) (.e (.var 0)) (.cons (.asg (.nm 1) false (.call ("_law_plus" : Str) (.cons (.var 1) (.cons (.var 2) .nil))))
  .nil))
  (.cons (.ret (.var 1))
  .nil)))
def t_law_words : Ss := (.cons (.asg (.nm 2) false (.lst .nil))
  (.cons (.while_ (.cmp .lt (.b1 .len (.bor 2)) (.bor 1)) (.cons (.asg (.nm 3) false (.join (.str ("" : Str)) (.comp [4] (.nm 4) (.range1 (.bin .add (.int 1) (.call ("_law_draw" : Str) (.cons (.var 0) (.cons (.int 8) .nil))))) .nil (.call ("_law_pick" : Str) (.cons (.var 0) (.cons (.b1 .list (.str ("abcdefghijklmnopqrstuvwxyz" : Str))) .nil))))))
  (.cons (.asg (.nm 2) false (.bin .add (.bor 2) (.ite (.cmp .notin (.bor 3) (.bor 2)) (.lst (.cons (.var 3) .nil)) (.ite (.and (.cmp .notin (.bin .add (.slc (.bor 3) .nil (.cons (.int 1) .nil)) (.bin .mul (.str ("q" : Str)) (.b1 .len (.bor 2)))) (.bor 2)) (.cmp .lt (.b1 .len (.bor 2)) (.int 8))) (.lst (.cons (.bin .add (.slc (.bor 3) .nil (.cons (.int 1) .nil)) (.bin .mul (.str ("q" : Str)) (.b1 .len (.bor 2)))) .nil)) (.lst .nil)))))
  .nil)))
  (.cons (.ret (.b1 .sorted (.bor 2)))
  .nil)))
def t_law_weights : Ss := (.cons (.asg (.nm 3) false (.comp [4] (.nm 4) (.range1 (.var 1)) .nil (.call ("_law_pick" : Str) (.cons (.var 0) (.cons (.lst (.cons (.int 0) (.cons (.int 1) (.cons (.int 1) (.cons (.int 2) (.cons (.int 3) (.cons (.call ("_law_draw" : Str) (.cons (.var 0) (.cons (.var 2) .nil))) (.cons (.call ("_law_draw" : Str) (.cons (.var 0) (.cons (.var 2) .nil))) .nil)))))))) .nil)))))
  (.cons (.ret (.ite (.cmp .gt (.b1 .sum (.bor 3)) (.int 0)) (.var 3) (.bin .add (.lst (.cons (.int 1) .nil)) (.slc (.bor 3) (.cons (.int 1) .nil) .nil))))
  .nil))
def t_law_shares : Ss := (.cons (.asg (.nm 2) false (.call ("_law_weights" : Str) (.cons (.var 0) (.cons (.var 1) (.cons (.int 9) .nil)))))
  (.cons (.ret (.b1 .tuple (.comp [3] (.nm 3) (.e (.var 2)) .nil (.call ("_law_q" : Str) (.cons (.var 3) (.cons (.b1 .sum (.bor 2)) .nil))))))
  .nil))
def t_law_number : Ss := (.cons (.par 2 3 (.call ("_law_draw" : Str) (.cons (.var 0) (.cons (.bin .add (.bor 1) (.int 1)) .nil))) (.bin .add (.int 1) (.call ("_law_draw" : Str) (.cons (.var 0) (.cons (.call ("_law_pick" : Str) (.cons (.var 0) (.cons (.lst (.cons (.int 1) (.cons (.int 1) (.cons (.int 3) (.cons (.var 1) .nil))))) .nil))) .nil)))))
  (.cons (.ret (.call ("_law_q" : Str) (.cons (.ite (.cmp .eq (.call ("_law_draw" : Str) (.cons (.var 0) (.cons (.int 2) .nil))) (.int 0)) (.var 2) (.bin .sub (.int 0) (.bor 2))) (.cons (.var 3) .nil))))
  .nil))
def t_law_is_ratio : Ss := (.cons (.ite (.or (.not (.isin (.bor 0) [.tuple])) (.or (.cmp .ne (.b1 .len (.bor 0)) (.int 2)) (.cmp .ne (.comp [1] (.nm 1) (.e (.var 0)) (.cons (.or (.not (.isin (.bor 1) [.int])) (.isin (.bor 1) [.bool])) .nil) (.int 1)) (.lst .nil)))) (.cons (.ret (.bl false))
  .nil) .nil)
  (.cons (.ret (.and (.cmp .gt (.ix (.bor 0) (.int 1)) (.int 0)) (.cmp .eq (.call ("_law_q" : Str) (.cons (.ix (.bor 0) (.int 0)) (.cons (.ix (.bor 0) (.int 1)) .nil))) (.bor 0))))
  .nil))
def t_law_is_word : Ss := (.cons (.ite (.or (.not (.isin (.bor 0) [.str])) (.not (.cmp2 .le .le (.int 1) (.b1 .len (.bor 0)) (.int 8)))) (.cons (.ret (.bl false))
  .nil) .nil)
  (.cons (.ret (.cmp .eq (.comp [1] (.nm 1) (.e (.var 0)) (.cons (.cmp .notin (.bor 1) (.str ("abcdefghijklmnopqrstuvwxyz" : Str))) .nil) (.var 1)) (.lst .nil)))
  .nil))
def t_law_means_right : Ss := (.cons (.asg (.nm 1) false (.b1 .list (.call ("_law_shares" : Str) (.cons (.var 0) (.cons (.bin .add (.int 1) (.call ("_law_draw" : Str) (.cons (.var 0) (.cons (.int 6) .nil)))) .nil)))))
  (.cons (.asg (.nm 2) false (.comp [3] (.nm 3) (.e (.var 1)) .nil (.call ("_law_number" : Str) (.cons (.var 0) (.cons (.int 99) .nil)))))
  (.cons (.asg (.nm 4) false (.call ("_law_sum" : Str) (.cons (.comp [3, 5] (.tp [3, 5]) (.zip (.var 1) (.var 2)) .nil (.call ("_law_times" : Str) (.cons (.var 3) (.cons (.var 5) .nil)))) .nil)))
  (.cons (.ite (.or (.not (.call ("_law_same" : Str) (.cons (.call ("mean" : Str) (.cons (.var 2) (.cons (.var 1) .nil))) (.cons (.var 4) .nil)))) (.cmp .ne (.callk ("mean" : Str) .nil (.cons (.b1 .tuple (.bor 1)) (.cons (.b1 .tuple (.bor 2)) .nil)) [1, 0]) (.bor 4))) (.cons (.ret (.bl false))
  .nil) .nil)
  (.cons (.for_ (.nm 6) (.e (.lst (.cons .non (.cons (.slc (.bor 1) (.cons (.int 1) .nil) .nil) (.cons (.bin .add (.bor 1) (.lst (.cons (.tup (.cons (.int 0) (.cons (.int 1) .nil))) .nil))) (.cons (.bin .add (.slc (.bor 1) .nil (.cons (.neg (.int 1)) .nil)) (.lst (.cons (.call ("_law_plus" : Str) (.cons (.ix (.bor 1) (.neg (.int 1))) (.cons (.tup (.cons (.int 1) (.cons (.int 99) .nil))) .nil))) .nil))) (.cons (.lst (.cons (.tup (.cons (.int 2) (.cons (.int 1) .nil))) (.cons (.tup (.cons (.neg (.int 1)) (.cons (.int 1) .nil))) .nil))) .nil))))))) (.cons (.ite (.not (.isin (.caught [6, 2] (.call ("mean" : Str) (.cons (.var 2) (.cons (.var 6) .nil)))) [.cls ("BadShares" : Str)])) (.cons (.ret (.bl false))
  .nil) .nil)
  .nil))
  (.cons (.ret (.isin (.caught [0] (.call ("mean" : Str) (.cons (.call ("_law_pick" : Str) (.cons (.var 0) (.cons (.lst (.cons .non (.cons (.lst .nil) (.cons (.lst (.cons .non .nil)) (.cons (.lst (.cons (.tup (.cons (.int 2) (.cons (.int 4) .nil))) .nil)) (.cons .dnew .nil)))))) .nil))) (.cons .non .nil)))) [.cls ("BadRatios" : Str)]))
  .nil))))))
end Pre
/-! Tr_k00: the compact trees of the text. -/
namespace K00
open PySem PySem.Spec PyProof.Rows L2 Ev
abbrev prg : Program := PySem.Challenge.pw_drawnsteps_k00_words_and_ratios
def top (i : Nat) : Stmt := prg.main.body.getD i (.Pass ⟨0, 0, 0, 0⟩)
def T0 : TB := { N := [], fns := [("is_whole" : Str), ("is_ratio" : Str), ("is_chance" : Str), ("lowest" : Str), ("plus" : Str), ("times" : Str), ("is_less" : Str), ("total" : Str), ("is_below" : Str), ("ratio" : Str), ("are_shares" : Str), ("need_shares" : Str), ("mean_of" : Str), ("mean" : Str), ("is_word" : Str), ("_law_blended" : Str), ("_law_draw" : Str), ("_law_pick" : Str), ("_law_is_truth" : Str), ("_law_same" : Str), ("_law_q" : Str), ("_law_plus" : Str), ("_law_times" : Str), ("_law_over" : Str), ("_law_less" : Str), ("_law_sum" : Str), ("_law_words" : Str), ("_law_weights" : Str), ("_law_shares" : Str), ("_law_number" : Str), ("_law_is_ratio" : Str), ("_law_is_word" : Str), ("_law_means_right" : Str)], kfns := [(("is_below" : Str), 0, [("other" : Str), ("one" : Str)], [1, 0]), (("is_chance" : Str), 0, [("value" : Str)], [0]), (("is_ratio" : Str), 0, [("value" : Str)], [0]), (("is_word" : Str), 0, [("value" : Str)], [0]), (("mean" : Str), 0, [("shares" : Str), ("ratios" : Str)], [1, 0]), (("ratio" : Str), 0, [("d" : Str), ("n" : Str)], [1, 0])], consts := [("ZERO" : Str), ("ONE" : Str), ("LETTERS" : Str)], excs := [("StepError" : Str), ("BadRatio" : Str), ("BadRatios" : Str), ("BadShares" : Str)], fexcs := [("BadNumber" : Str)], gcd := true }
theorem tr_is_whole : trSs (T0.loc [("value" : Str)] [] false false false []) (defScope (top 10)) (defBody (top 10)) = Pre.t_is_whole := by kernel_rfl
theorem tr_is_ratio : trSs (T0.loc [("value" : Str), ("part" : Str)] [] false false false []) (defScope (top 11)) (defBody (top 11)) = Pre.t_is_ratio := by kernel_rfl
theorem tr_is_chance : trSs (T0.loc [("value" : Str)] [] false false false []) (defScope (top 12)) (defBody (top 12)) = Pre.t_is_chance := by kernel_rfl
theorem tr_lowest : trSs (T0.loc [("n" : Str), ("d" : Str), ("common" : Str)] [] false false false []) (defScope (top 13)) (defBody (top 13)) = Pre.t_lowest := by kernel_rfl
theorem tr_plus : trSs (T0.loc [("one" : Str), ("other" : Str)] [] false false false []) (defScope (top 14)) (defBody (top 14)) = Pre.t_plus := by kernel_rfl
theorem tr_times : trSs (T0.loc [("one" : Str), ("other" : Str)] [] false false false []) (defScope (top 15)) (defBody (top 15)) = Pre.t_times := by kernel_rfl
theorem tr_is_less : trSs (T0.loc [("one" : Str), ("other" : Str)] [] false false false []) (defScope (top 16)) (defBody (top 16)) = Pre.t_is_less := by kernel_rfl
theorem tr_total : trSs (T0.loc [("ratios" : Str), ("found" : Str), ("each" : Str)] [] false false false []) (defScope (top 17)) (defBody (top 17)) = Pre.t_total := by kernel_rfl
theorem tr_is_below : trSs (T0.loc [("one" : Str), ("other" : Str)] [] false false false []) (defScope (top 18)) (defBody (top 18)) = Pre.t_is_below := by kernel_rfl
theorem tr_ratio : trSs (T0.loc [("n" : Str), ("d" : Str)] [] false false false []) (defScope (top 19)) (defBody (top 19)) = Pre.t_ratio := by kernel_rfl
theorem tr_are_shares : trSs (T0.loc [("value" : Str), ("many" : Str), ("share" : Str)] [] false false false []) (defScope (top 20)) (defBody (top 20)) = Pre.t_are_shares := by kernel_rfl
theorem tr_need_shares : trSs (T0.loc [("shares" : Str), ("many" : Str)] [] false false false []) (defScope (top 21)) (defBody (top 21)) = Pre.t_need_shares := by kernel_rfl
theorem tr_mean_of : trSs (T0.loc [("ratios" : Str), ("shares" : Str), ("share" : Str), ("ratio_" : Str)] [] false false false []) (defScope (top 22)) (defBody (top 22)) = Pre.t_mean_of := by kernel_rfl
theorem tr_mean : trSs (T0.loc [("ratios" : Str), ("shares" : Str), ("each" : Str)] [] false false false []) (defScope (top 23)) (defBody (top 23)) = Pre.t_mean := by kernel_rfl
theorem tr_is_word : trSs (T0.loc [("value" : Str), ("letter" : Str)] [] false false false []) (defScope (top 26)) (defBody (top 26)) = Pre.t_is_word := by kernel_rfl
theorem tr_law_blended : trSs (T0.loc [("state" : Str), ("turn" : Str), ("found" : Str), ("prime" : Str), ("blend" : Str), ("cell" : Str)] [] false true false []) (defScope (top 29)) (defBody (top 29)) = Pre.t_law_blended := by kernel_rfl
theorem tr_law_draw : trSs (T0.loc [("state" : Str), ("room" : Str), ("found" : Str)] [] false true false []) (defScope (top 30)) (defBody (top 30)) = Pre.t_law_draw := by kernel_rfl
theorem tr_law_pick : trSs (T0.loc [("state" : Str), ("some" : Str)] [] false false false []) (defScope (top 31)) (defBody (top 31)) = Pre.t_law_pick := by kernel_rfl
theorem tr_law_is_truth : trSs (T0.loc [("found" : Str), ("due" : Str)] [] false false false []) (defScope (top 33)) (defBody (top 33)) = Pre.t_law_is_truth := by kernel_rfl
theorem tr_law_same : trSs (T0.loc [("found" : Str), ("due" : Str), ("waiting" : Str), ("one" : Str), ("other" : Str), ("key" : Str), ("alike" : Str), ("left" : Str), ("right" : Str)] [2] false false false []) (defScope (top 34)) (defBody (top 34)) = Pre.t_law_same := by kernel_rfl
theorem tr_law_q : trSs (T0.loc [("n" : Str), ("d" : Str), ("one" : Str), ("other" : Str)] [] false false false []) (defScope (top 35)) (defBody (top 35)) = Pre.t_law_q := by kernel_rfl
theorem tr_law_plus : trSs (T0.loc [("one" : Str), ("other" : Str)] [] false false false []) (defScope (top 36)) (defBody (top 36)) = Pre.t_law_plus := by kernel_rfl
theorem tr_law_times : trSs (T0.loc [("one" : Str), ("other" : Str)] [] false false false []) (defScope (top 37)) (defBody (top 37)) = Pre.t_law_times := by kernel_rfl
theorem tr_law_over : trSs (T0.loc [("one" : Str), ("other" : Str)] [] false false false []) (defScope (top 38)) (defBody (top 38)) = Pre.t_law_over := by kernel_rfl
theorem tr_law_less : trSs (T0.loc [("one" : Str), ("other" : Str)] [] false false false []) (defScope (top 39)) (defBody (top 39)) = Pre.t_law_less := by kernel_rfl
theorem tr_law_sum : trSs (T0.loc [("some" : Str), ("found" : Str), ("each" : Str)] [] false false false []) (defScope (top 40)) (defBody (top 40)) = Pre.t_law_sum := by kernel_rfl
theorem tr_law_words : trSs (T0.loc [("draws" : Str), ("many" : Str), ("found" : Str), ("word" : Str), ("lap" : Str)] [] false false false []) (defScope (top 41)) (defBody (top 41)) = Pre.t_law_words := by kernel_rfl
theorem tr_law_weights : trSs (T0.loc [("draws" : Str), ("many" : Str), ("top" : Str), ("found" : Str), ("lap" : Str)] [] false false false []) (defScope (top 42)) (defBody (top 42)) = Pre.t_law_weights := by kernel_rfl
theorem tr_law_shares : trSs (T0.loc [("draws" : Str), ("many" : Str), ("found" : Str), ("each" : Str)] [] false false false []) (defScope (top 43)) (defBody (top 43)) = Pre.t_law_shares := by kernel_rfl
theorem tr_law_number : trSs (T0.loc [("draws" : Str), ("size" : Str), ("n" : Str), ("d" : Str)] [] false false false []) (defScope (top 44)) (defBody (top 44)) = Pre.t_law_number := by kernel_rfl
theorem tr_law_is_ratio : trSs (T0.loc [("value" : Str), ("part" : Str)] [] false false false []) (defScope (top 45)) (defBody (top 45)) = Pre.t_law_is_ratio := by kernel_rfl
theorem tr_law_is_word : trSs (T0.loc [("value" : Str), ("letter" : Str)] [] false false false []) (defScope (top 46)) (defBody (top 46)) = Pre.t_law_is_word := by kernel_rfl
theorem tr_law_means_right : trSs (T0.loc [("draws" : Str), ("shares" : Str), ("some" : Str), ("share" : Str), ("due" : Str), ("one" : Str), ("odd" : Str)] [] true false false []) (defScope (top 47)) (defBody (top 47)) = Pre.t_law_means_right := by kernel_rfl
def t_law : Ss := (.cons (.asg (.nm 2) false (.tup (.cons (.int 1) (.cons (.int 1) .nil))))
  (.cons (.for_ (.nm 3) (.range1 (.int 8)) (.cons (.asg (.nm 2) false (.call ("_law_over" : Str) (.cons (.var 2) (.cons (.tup (.cons (.bin .pow (.int 10) (.int 50)) (.cons (.int 1) .nil))) .nil))))
  .nil))
  (.cons (.ite (.or (.cmp .isnot (.call ("is_below" : Str) (.cons (.var 2) (.cons (.call ("_law_plus" : Str) (.cons (.var 2) (.cons (.var 2) .nil))) .nil))) (.bl true)) (.or (.cmp .isnot (.call ("is_below" : Str) (.cons (.tup (.cons (.int 0) (.cons (.int 1) .nil))) (.cons (.var 2) .nil))) (.bl true)) (.cmp .ne (.call ("mean" : Str) (.cons (.lst (.cons (.var 2) (.cons (.tup (.cons (.int 0) (.cons (.int 1) .nil))) .nil))) (.cons (.lst (.cons (.tup (.cons (.int 1) (.cons (.int 2) .nil))) (.cons (.tup (.cons (.int 1) (.cons (.int 2) .nil))) .nil))) .nil))) (.call ("_law_over" : Str) (.cons (.var 2) (.cons (.tup (.cons (.int 2) (.cons (.int 1) .nil))) .nil)))))) (.cons (.ret (.bl false))
  .nil) .nil)
  (.cons (.for_ (.nm 4) (.range1 (.bin .add (.int 2) (.min2 (.b1 .len (.bor 0)) (.int 5)))) (.cons (.par 5 6 (.bin .sub (.call ("_law_draw" : Str) (.cons (.var 1) (.cons (.bin .pow (.int 10) (.int 20)) .nil))) (.bin .pow (.int 10) (.int 19))) (.bin .add (.int 1) (.call ("_law_draw" : Str) (.cons (.var 1) (.cons (.call ("_law_pick" : Str) (.cons (.var 1) (.cons (.lst (.cons (.int 9) (.cons (.bin .pow (.int 10) (.int 20)) .nil))) .nil))) .nil)))))
  (.cons (.asg (.nm 7) false (.call ("_law_q" : Str) (.cons (.bin .add (.int 1) (.call ("_law_draw" : Str) (.cons (.var 1) (.cons (.int 9) .nil)))) (.cons (.int 10) .nil))))
  (.cons (.for_ (.nm 8) (.e (.lst (.cons (.call ("_law_q" : Str) (.cons (.var 5) (.cons (.var 6) .nil))) (.cons (.var 7) (.cons (.tup (.cons (.var 5) (.cons (.var 6) .nil))) (.cons (.tup (.cons (.bin .mul (.bor 5) (.int 6)) (.cons (.bin .mul (.bor 6) (.int 6)) .nil))) (.cons (.tup (.cons (.var 5) (.cons (.bin .sub (.int 0) (.bor 6)) .nil))) (.cons (.lst (.cons (.var 5) (.cons (.var 6) .nil))) (.cons (.tup (.cons (.var 5) .nil)) (.cons (.tup (.cons (.bl true) (.cons (.int 1) .nil))) (.cons (.tup (.cons (.int 0) (.cons (.int 2) .nil))) (.cons (.tup (.cons (.int 1) (.cons (.int 0) .nil))) (.cons .non (.cons (.var 5) (.cons (.tup (.cons (.int 0) (.cons (.int 1) .nil))) (.cons (.tup (.cons (.int 1) (.cons (.int 1) .nil))) (.cons (.tup (.cons (.int 1) (.cons (.int 2) .nil))) (.cons (.tup (.cons (.int 3) (.cons (.int 2) .nil))) .nil)))))))))))))))))) (.cons (.asg (.nm 9) false (.call ("_law_is_ratio" : Str) (.cons (.var 8) .nil)))
  (.cons (.asg (.nm 10) false (.and (.bor 9) (.cmp2 .le .le (.int 0) (.ix (.bor 8) (.int 0)) (.ix (.bor 8) (.int 1)))))
  (.cons (.ite (.or (.not (.call ("_law_is_truth" : Str) (.cons (.call ("is_ratio" : Str) (.cons (.var 8) .nil)) (.cons (.var 9) .nil)))) (.not (.call ("_law_is_truth" : Str) (.cons (.call ("is_chance" : Str) (.cons (.var 8) .nil)) (.cons (.var 10) .nil))))) (.cons (.ret (.bl false))
  .nil) .nil)
  (.cons (.ite (.or (.cmp .ne (.callk ("is_ratio" : Str) .nil (.cons (.var 8) .nil) [0]) (.bor 9)) (.cmp .ne (.callk ("is_chance" : Str) .nil (.cons (.var 8) .nil) [0]) (.bor 10))) (.cons (.ret (.bl false))
  .nil) .nil)
  .nil)))))
  (.cons (.ite (.or (.not (.call ("_law_same" : Str) (.cons (.call ("ratio" : Str) (.cons (.var 5) (.cons (.var 6) .nil))) (.cons (.call ("_law_q" : Str) (.cons (.var 5) (.cons (.var 6) .nil))) .nil)))) (.cmp .ne (.callk ("ratio" : Str) .nil (.cons (.bin .sub (.int 0) (.bor 6)) (.cons (.var 5) .nil)) [1, 0]) (.call ("_law_q" : Str) (.cons (.bin .sub (.int 0) (.bor 5)) (.cons (.var 6) .nil))))) (.cons (.ret (.bl false))
  .nil) .nil)
  (.cons (.asg (.nm 11) false (.call ("_law_number" : Str) (.cons (.var 1) (.cons (.int 99) .nil))))
  (.cons (.ite (.or (.not (.call ("_law_is_truth" : Str) (.cons (.call ("is_below" : Str) (.cons (.call ("_law_q" : Str) (.cons (.var 5) (.cons (.var 6) .nil))) (.cons (.var 11) .nil))) (.cons (.call ("_law_less" : Str) (.cons (.call ("_law_q" : Str) (.cons (.var 5) (.cons (.var 6) .nil))) (.cons (.var 11) .nil))) .nil)))) (.cmp .isnot (.callk ("is_below" : Str) .nil (.cons (.var 11) (.cons (.var 11) .nil)) [1, 0]) (.bl false))) (.cons (.ret (.bl false))
  .nil) .nil)
  (.cons (.asg (.nm 12) false (.ix (.call ("_law_words" : Str) (.cons (.var 1) (.cons (.int 1) .nil))) (.int 0)))
  (.cons (.for_ (.nm 8) (.e (.lst (.cons (.var 12) (.cons (.bin .add (.bor 12) (.str ("A" : Str))) (.cons (.bin .mul (.bor 12) (.int 9)) (.cons (.str ("" : Str)) (.cons (.tup (.cons (.var 12) .nil)) (.cons .non (.cons (.upper (.bor 12)) .nil))))))))) (.cons (.ite (.or (.not (.call ("_law_is_truth" : Str) (.cons (.call ("is_word" : Str) (.cons (.var 8) .nil)) (.cons (.call ("_law_is_word" : Str) (.cons (.var 8) .nil)) .nil)))) (.cmp .ne (.callk ("is_word" : Str) .nil (.cons (.var 8) .nil) [0]) (.call ("_law_is_word" : Str) (.cons (.var 8) .nil)))) (.cons (.ret (.bl false))
  .nil) .nil)
  .nil))
  (.cons (.ite (.not (.call ("_law_means_right" : Str) (.cons (.var 1) .nil))) (.cons (.ret (.bl false))
  .nil) .nil)
  (.cons (.asg (.nm 13) false (.caught [1] (.call ("ratio" : Str) (.cons (.call ("_law_pick" : Str) (.cons (.var 1) (.cons (.lst (.cons .non (.cons (.bl true) (.cons (.str ("1" : Str)) .nil)))) .nil))) (.cons (.int 0) .nil)))))
  (.cons (.ite (.or (.not (.isin (.bor 13) [.cls ("BadNumber" : Str)])) (.cmp .ne (.fld (.bor 13) ("part" : Str)) (.str ("n" : Str)))) (.cons (.ret (.bl false))
  .nil) .nil)
  (.cons (.asg (.nm 13) false (.caught [1] (.call ("ratio" : Str) (.cons (.int 1) (.cons (.call ("_law_pick" : Str) (.cons (.var 1) (.cons (.lst (.cons (.int 0) (.cons .non (.cons (.bl false) .nil)))) .nil))) .nil)))))
  (.cons (.ite (.or (.not (.isin (.bor 13) [.cls ("BadNumber" : Str)])) (.cmp .ne (.fld (.bor 13) ("part" : Str)) (.str ("d" : Str)))) (.cons (.ret (.bl false))
  .nil) .nil)
  (.cons (.for_ (.nm 14) (.e (.lst (.cons (.lam (.call ("is_below" : Str) (.cons .non (.cons (.tup (.cons (.int 1) (.cons (.int 1) .nil))) .nil))) []) (.cons (.lam (.call ("is_below" : Str) (.cons (.tup (.cons (.int 1) (.cons (.int 1) .nil))) (.cons (.tup (.cons (.int 2) (.cons (.int 2) .nil))) .nil))) []) .nil)))) (.cons (.ite (.not (.isin (.cgv 14 []) [.cls ("BadRatio" : Str)])) (.cons (.ret (.bl false))
  .nil) .nil)
  .nil))
  .nil)))))))))))))))
  (.cons (.ret (.bl true))
  .nil)))))
theorem tr_law : trSs (T0.loc [("script" : Str), ("draws" : Str), ("tiny" : Str), ("lap" : Str), ("turn" : Str), ("n" : Str), ("d" : Str), ("own" : Str), ("value" : Str), ("due" : Str), ("chance" : Str), ("other" : Str), ("word" : Str), ("error" : Str), ("work" : Str)] [] true false true []) (defScope (top 48)) ((defBody (top 48)).drop 1) = t_law := by kernel_rfl
def bods : List (Str × Nat × Nat × Bool × Ss) := [(("is_whole" : Str), 1, 1, false, Pre.t_is_whole),
  (("is_ratio" : Str), 1, 2, false, Pre.t_is_ratio),
  (("is_chance" : Str), 1, 1, false, Pre.t_is_chance),
  (("lowest" : Str), 2, 3, false, Pre.t_lowest),
  (("plus" : Str), 2, 2, false, Pre.t_plus),
  (("times" : Str), 2, 2, false, Pre.t_times),
  (("is_less" : Str), 2, 2, false, Pre.t_is_less),
  (("total" : Str), 1, 3, false, Pre.t_total),
  (("is_below" : Str), 2, 2, false, Pre.t_is_below),
  (("ratio" : Str), 2, 2, false, Pre.t_ratio),
  (("are_shares" : Str), 2, 3, false, Pre.t_are_shares),
  (("need_shares" : Str), 2, 2, false, Pre.t_need_shares),
  (("mean_of" : Str), 2, 4, false, Pre.t_mean_of),
  (("mean" : Str), 2, 3, false, Pre.t_mean),
  (("is_word" : Str), 1, 2, false, Pre.t_is_word),
  (("_law_blended" : Str), 1, 6, false, Pre.t_law_blended),
  (("_law_draw" : Str), 2, 3, false, Pre.t_law_draw),
  (("_law_pick" : Str), 2, 2, false, Pre.t_law_pick),
  (("_law_is_truth" : Str), 2, 2, false, Pre.t_law_is_truth),
  (("_law_same" : Str), 2, 9, false, Pre.t_law_same),
  (("_law_q" : Str), 2, 4, false, Pre.t_law_q),
  (("_law_plus" : Str), 2, 2, false, Pre.t_law_plus),
  (("_law_times" : Str), 2, 2, false, Pre.t_law_times),
  (("_law_over" : Str), 2, 2, false, Pre.t_law_over),
  (("_law_less" : Str), 2, 2, false, Pre.t_law_less),
  (("_law_sum" : Str), 1, 3, false, Pre.t_law_sum),
  (("_law_words" : Str), 2, 5, false, Pre.t_law_words),
  (("_law_weights" : Str), 3, 5, false, Pre.t_law_weights),
  (("_law_shares" : Str), 2, 4, false, Pre.t_law_shares),
  (("_law_number" : Str), 2, 4, false, Pre.t_law_number),
  (("_law_is_ratio" : Str), 1, 2, false, Pre.t_law_is_ratio),
  (("_law_is_word" : Str), 1, 2, false, Pre.t_law_is_word),
  (("_law_means_right" : Str), 1, 7, false, Pre.t_law_means_right)]
def cons : List (Str × D) := [(("ZERO" : Str), (.tup [(.int 0), (.int 1)])), (("ONE" : Str), (.tup [(.int 1), (.int 1)])), (("LETTERS" : Str), (.str ("abcdefghijklmnopqrstuvwxyz" : Str)))]
def subs : List (Str × List Str) := [(("StepError" : Str), [("StepError" : Str)]), (("BadNumber" : Str), [("BadNumber" : Str), ("StepError" : Str)]), (("BadRatio" : Str), [("BadRatio" : Str), ("StepError" : Str)]), (("BadRatios" : Str), [("BadRatios" : Str), ("StepError" : Str)]), (("BadShares" : Str), [("BadShares" : Str), ("StepError" : Str)])]
def flds : List (Str × List Str) := [(("BadNumber" : Str), [("part" : Str)])]
abbrev tbl : Tbl := mkTbl bods cons subs flds
end K00
/-! Ev37: a class of errors with one field, from the written part. -/
namespace Ev
open PySem PySem.Spec PyProof.Rows L2
theorem clAt_of {K : PySem.W.Frag} {x : Str} {C : Addr} (h : PySem.W.nsIn K mainGlobals x = some (some (.ref C))) : clAt K x = C := by unfold clAt; rw [h]
theorem xf_of {P : Program} {K : PySem.W.Frag} {C fI cda cc N : Addr} {x f : Str} {nm q qual : Str} {bs bm : List Value} {sn : List Str} {sub : List Value} {ab : Bool} {col : Option Bool} {dd : Option Addr} {k0 k1 k2 k3 k5 : Option Value}
    {oc kV doc pm ct ccl cl : Value} {od an cdd cld : Option Addr} {osl ccs csl : Array (Option Value)} {args : Arguments} {body : List Stmt} {scope : Scope} {a1 : Arg} {as : List Arg} {vs : Array Value} {file : Str} {tf : Tok} {q1 q2 q3 q4 q5 q6 q7 q8 q9 q10 : Pos}
    (hn : PySem.W.nsIn K mainGlobals x = some (some (.ref C)))
    (hC : K.lookup C = some (excClassObj nm q C N bs bm true sn sub ab col dd k0 k1 k2 k3 k5 "ValueError.__new__")) (hbm : PySem.HandSPX.refsVE bm = true)
    (sa : PySem.W.findIn K (.ref C) "__setattr__" = some (some (.builtin "object.__setattr__"))) (exC : PySem.W.subIn K (.ref C) (.type "BaseException") = some true) (tyC : PySem.W.typeIn K (.ref C) = some (.type "type")) (kC : PySem.W.keepIn K (.ref C) = true)
    (iC : PySem.W.findIn K (.ref C) "__init__" = some (some (.ref fI))) (tI : PySem.W.typeIn K (.ref fI) = some (.type "function")) (hno : PySem.W.findIn K (.ref C) f = some none)
    (l : K.lookup fI = some ⟨oc, od, .func (PySem.W.ksFn "__init__" qual args body scope .none kV doc pm an (.ref cda) ct cc), osl⟩) (cd : PySem.W.codeIn K (.ref cda) qual = true)
    (lc : K.lookup cda = some ⟨ccl, cdd, .fields vs, ccs⟩) (lcc : K.lookup cc = some ⟨cl, cld, .cell (some (.ref C)), csl⟩)
    (hv : vs[2]? = some (.str file tf)) (hf : ((P.main.file : Str) == file) = true) (ha : args.posonlyargs ++ args.args = a1 :: as) (h1 : a1.arg = "self")
    (hm : PySem.W.mroIn K C (.ref C) = some true) (hsup : PySem.W.ks_superIn K C C "__init__" = some (some (.builtin "ValueError.__init__"))) (hsub : PySem.W.subIn K (.ref C) (.type "ValueError") = some true) (hop : PySem.W.nsIn K cStatics "thirdparty.any" = some none)
    (hbody : body = [.Expr (.Call (.Attribute (.Call (.Name "super" q1) [] [] q2) "__init__" q3) [.Name f q4] [] q5) q6, .Assign [.Attribute (.Name "self" q7) f q8] (.Name f q9) q10])
    (hs : scope = { kind := .function, names := [("self", .local), (f, .local), ("__class__", .free), ("super", .globalImplicit)], isGenerator := false, isCoroutine := false, more := [] })
    (hl : (q3.endLine == q5.line) = true) (htop : (P.main.scope.names.lookup ("super" : Str)).isSome = false) (nf : f ≠ "self" ∧ f ≠ "super" ∧ f ≠ "__class__" ∧ f ≠ "__debug__" ∧ f ≠ "__classdict__")
    (bnd : ∀ us : List Value, us.length = 2 → bindArgs (PySem.W.ksFn "__init__" qual args body scope .none kV doc pm an (.ref cda) ct cc) ⟨us, []⟩ = pure ((["self", f] : List Str).zip us)) : ∃ fI fd, XF P K (clAt K x) x f fI fd := by
  rw [clAt_of hn]
  have hcl : PySem.W.clsIn K C = some { name := nm, bases := bs, mro := .ref C :: bm, ns := N, qualname := q, hasDict := true, slotNames := sn, subclasses := sub, abstract := ab, collection := col, hasDel := false } := by unfold PySem.W.clsIn; rw [hC] <;> rfl
  obtain ⟨n1, n2, n3, n4, n5⟩ := nf
  subst hs
  have lk : ∀ y : Str, ([("self", NameKind.local), (f, .local), ("__class__", .free), ("super", .globalImplicit)] : List (Str × NameKind)).lookup y = if y = "self" then some .local else if y = f then some .local else if y = "__class__" then some .free else if y = "super" then some .globalImplicit else none := fun y => by
    simp only [List.lookup]
    repeat' split
    all_goals simp_all
  refine ⟨fI, _, { oex := ⟨⟨nm, q, N, bs, bm, sn, sub, ab, col, dd, k0, k1, k2, k3, k5, hC, hbm⟩, sa, exC, tyC, kC⟩, iC := iC, tI := tI, hno := hno, bnd := .all bnd, fn := ⟨oc, od, an, osl, qual, args, body, _, kV, doc, pm, ct, cc, cda, a1, as, _, cl, ccl, cld, cdd, csl, ccs, vs, file, tf, q1, q2, q3, q4, q5, q6, q7, q8, q9, q10,
    l, rfl, cd, ha, h1, lc, hv, hf, lcc, hcl, hm, hsup, hsub, hop, rfl, rfl, rfl, ?_, ?_, ?_, ?_, ?_, ?_, htop, n1, ?_, ?_, hl, hbody⟩ }⟩
  · rw [lk]; rfl
  · rw [lk, if_neg n1, if_pos rfl]
  · rw [lk, if_neg (by decide), if_neg (Ne.symm n2), if_neg (by decide)]; rfl
  · rw [lk, if_neg (by decide), if_neg (Ne.symm n3)]; rfl
  · intro y hy
    simp only [List.mem_cons, List.not_mem_nil, or_false] at hy
    rcases hy with rfl | rfl | rfl | rfl <;> (intro z; cases z)
  · intro y hy
    simp only [List.mem_cons, List.not_mem_nil, or_false] at hy
    rcases hy with rfl | rfl | rfl | rfl
    · intro z; cases z
    · intro z; cases z
    · intro _; rfl
    · intro z; cases z
  · simpa using n4
  · simpa using n5
end Ev
/-! Pu1: the evaluator's equations, for simp. -/
namespace Ev
open PySem L2
section
variable (g : G) (a b c e i : E) (es kes cs lo hi : Es) (env : Env) (st : DS) (x y : D) (o p : Cop) (bo : Bop) (f : Str) (n : Nat) (ts : List Ty) (tg : Tg) (it : I) (own : List Nat) (pm caps : List Nat)
@[simp] theorem evE_bad : evE g .bad env st = .stuck := rfl
@[simp] theorem evE_non : evE g .non env st = .ok .non st := rfl
@[simp] theorem evE_bl (k : Bool) : evE g (.bl k) env st = .ok (.bl k) st := rfl
@[simp] theorem evE_int (k : Int) : evE g (.int k) env st = .ok (.int k) st := rfl
@[simp] theorem evE_str (k : Str) : evE g (.str k) env st = .ok (.str k) st := rfl
@[simp] theorem evE_var : evE g (.var n) env st = ofO (lk env n) st := rfl
@[simp] theorem evE_bor : evE g (.bor n) env st = ofO (lk env n) st := rfl
@[simp] theorem evE_glob : evE g (.glob f) env st = ofO (g.glob f) st := rfl
@[simp] theorem evE_tup : evE g (.tup es) env st = (evEs g es env st).bind fun ds st => .ok (.tup ds) st := rfl
@[simp] theorem evE_lst : evE g (.lst es) env st = (evEs g es env st).bind fun ds st => .ok (.lst ds) st := rfl
@[simp] theorem evE_bin : evE g (.bin bo a b) env st = (evE g a env st).bind fun x st => (evE g b env st).bind fun y st => ofO (binop bo x y) st := rfl
@[simp] theorem evE_neg : evE g (.neg a) env st = (evE g a env st).bind fun x st => ofO ((asI x).map fun i => .int (-i)) st := rfl
@[simp] theorem evE_not : evE g (.not a) env st = (evE g a env st).bind fun x st => ofO ((asB x).map fun b => .bl (!b)) st := rfl
@[simp] theorem evE_cmp : evE g (.cmp o a b) env st = (evE g a env st).bind fun x st => (evE g b env st).bind fun y st => ofO ((cmpop o x y).map .bl) st := rfl
@[simp] theorem evE_cmp2 : evE g (.cmp2 o p a b c) env st = (evE g a env st).bind fun x st => (evE g b env st).bind fun y st => (ofO (cmpop o x y) st).bind fun k st =>
      if k then (evE g c env st).bind fun z st => ofO ((cmpop p y z).map .bl) st else .ok (.bl false) st := rfl
@[simp] theorem evE_and : evE g (.and a b) env st = (evE g a env st).bind fun x st => (ofO (asB x) st).bind fun k st => if k then evE g b env st else .ok (.bl false) st := rfl
@[simp] theorem evE_or : evE g (.or a b) env st = (evE g a env st).bind fun x st => (ofO (asB x) st).bind fun k st => if k then .ok (.bl true) st else evE g b env st := rfl
@[simp] theorem evE_ite : evE g (.ite c a b) env st = (evE g c env st).bind fun x st => (ofO (asB x) st).bind fun k st => if k then evE g a env st else evE g b env st := rfl
@[simp] theorem evE_ix : evE g (.ix a i) env st = (evE g a env st).bind fun x st => (evE g i env st).bind fun y st => ofO (ixop x y) st := rfl
@[simp] theorem evE_slc : evE g (.slc a lo hi) env st = (evE g a env st).bind fun x st => (evEs g lo env st).bind fun l st => (ofO (partD l) st).bind fun l st =>
      (evEs g hi env st).bind fun h st => (ofO (partD h) st).bind fun h st => ofO (slop l h x) st := rfl
@[simp] theorem evE_fld : evE g (.fld a f) env st = (evE g a env st).bind fun x st => ofO (fldD g x f) st := rfl
@[simp] theorem evE_call : evE g (.call f es) env st = (evEs g es env st).bind fun ds st => g.call f ds st := rfl
@[simp] theorem evE_callk : evE g (.callk f es kes pm) env st = (evEs g es env st).bind fun ds st => (evEs g kes env st).bind fun kds st => g.call f (permL pm (ds ++ kds)) st := rfl
@[simp] theorem evE_b1 (k : B1) : evE g (.b1 k a) env st = (evE g a env st).bind fun x st => ofO (b1op k x) st := rfl
@[simp] theorem evE_gcd : evE g (.gcd a b) env st = (evE g a env st).bind fun x st => (evE g b env st).bind fun y st => ofO (gcdI x y) st := rfl
@[simp] theorem evE_min2 : evE g (.min2 a b) env st = (evE g a env st).bind fun x st => (evE g b env st).bind fun y st => ofO (minI x y) st := rfl
@[simp] theorem evE_max2 : evE g (.max2 a b) env st = (evE g a env st).bind fun x st => (evE g b env st).bind fun y st => ofO (maxI x y) st := rfl
@[simp] theorem evE_dnew : evE g .dnew env st = .ok (.dK []) st := rfl
@[simp] theorem evE_isin : evE g (.isin a ts) env st = (evE g a env st).bind fun x st => ofO ((isinT g x ts).map .bl) st := rfl
@[simp] theorem evE_listI : evE g (.listI it) env st = (evI g it env st).bind fun ds st => .ok (.lst ds) st := rfl
@[simp] theorem evE_index : evE g (.index a b) env st = (evE g a env st).bind fun x st => (evE g b env st).bind fun y st => ofO (indexD x y) st := rfl
@[simp] theorem evE_join : evE g (.join a b) env st = (evE g a env st).bind fun x st => (ofO (asS x) st).bind fun s st => (evE g b env st).bind fun y st => ofO (joinD s y) st := rfl
@[simp] theorem evE_upper : evE g (.upper a) env st = (evE g a env st).bind fun x st => ofO (upperD x) st := rfl
/-- one turn of a comprehension -/
def compF (g : G) (own : List Nat) (tg : Tg) (cs : Es) (elt : E) (env : Env) (d : D) (st : DS) : Res (Option D) :=
  Res.noRaise ((ofO (bindT tg d (wipeE env own)) st).bind fun env st => (evCs g cs env st).bind fun k st => if k then (evE g elt env st).bind fun x st => .ok (some x) st else .ok none st)
@[simp] theorem evE_comp : evE g (.comp own tg it cs e) env st = (evI g it env st).bind fun ds st => (mapR (compF g own tg cs e env) ds st).bind fun rs st => .ok (.lst rs) st := rfl
@[simp] theorem evE_lam : evE g (.lam a caps) env st = .ok (.clo a caps) st := rfl
@[simp] theorem evE_dr (f : Nat) : evE g (.dr n f) env st = if isDrw (lk env n) then ofO (drF f st) st else .stuck := rfl
@[simp] theorem evE_gne : evE g (.gne n) env st = if isDrw (lk env n) then .ok (.bl (!st.great.isEmpty)) st else .stuck := rfl
@[simp] theorem evE_popg : evE g (.popg n) env st = if isDrw (lk env n) then popG st else .stuck := rfl
@[simp] theorem evE_caught : evE g (.caught caps e) env st = catchR (evE g e (keepE caps 0 env) st) := rfl
@[simp] theorem evE_cgv (vs : List Nat) : evE g (.cgv n vs) env st = match lk env n with
    | some (.clo t caps) => if caps.all vs.contains then catchR (g.lam t (keepE caps 0 env) st) else .stuck
    | _ => .stuck := rfl
@[simp] theorem evEs_nil : evEs g .nil env st = .ok [] st := rfl
@[simp] theorem evEs_cons : evEs g (.cons e es) env st = (evE g e env st).bind fun d st => (evEs g es env st).bind fun ds st => .ok (d :: ds) st := rfl
@[simp] theorem evCs_nil : evCs g .nil env st = .ok true st := rfl
@[simp] theorem evCs_cons : evCs g (.cons e es) env st = (evE g e env st).bind fun d st => (ofO (asB d) st).bind fun k st => if k then evCs g es env st else .ok false st := rfl
@[simp] theorem evI_e : evI g (.e e) env st = (evE g e env st).bind fun d st => ofO (itemsD d) st := rfl
@[simp] theorem evI_range1 : evI g (.range1 a) env st = (evE g a env st).bind fun d st => ofO (rangeD [d]) st := rfl
@[simp] theorem evI_range2 : evI g (.range2 a b) env st = (evE g a env st).bind fun d st => (evE g b env st).bind fun e st => ofO (rangeD [d, e]) st := rfl
@[simp] theorem evI_zip : evI g (.zip a b) env st = (evE g a env st).bind fun d st => (evE g b env st).bind fun e st => ofO (zipD d e) st := rfl
@[simp] theorem evI_enum : evI g (.enum a) env st = (evE g a env st).bind fun d st => ofO (enumD d) st := rfl
end
section
variable (g : G) (a b c e : E) (es : Es) (env : Env) (own : List Nat) (st : DS) (i j f : Nat) (k : Bool) (tg : Tg) (it : I) (s : Sta) (ss sa sb : Ss) (s1 : S) (x : Str)
@[simp] theorem evSs_nil : evSs g .nil s st = .ok (s, .nx) st := rfl
@[simp] theorem evSs_cons : evSs g (.cons s1 ss) s st = (evS g s1 s st).bind fun r st => match r.2 with
    | .nx => evSs g ss r.1 st
    | _ => .ok r st := rfl
@[simp] theorem evS_asg : evS g (.asg (.nm i) k e) (env, own) st = (evE g e env st).bind fun d st => .ok ((st1 env i (some d), claim (frz own (i :: varsE e)) i k d), .nx) st := rfl
@[simp] theorem evS_asgT (is : List Nat) : evS g (.asg (.tp is) k e) (env, own) st = (evE g e env st).bind fun d st => (ofO (bindT (.tp is) d env) st).bind fun env st => .ok ((env, frz own (tgs (.tp is) ++ varsE e)), .nx) st := rfl
@[simp] theorem evS_par : evS g (.par i j a b) (env, own) st = (evE g a env st).bind fun x st => (evE g b env st).bind fun y st => .ok ((st1 (st1 env i (some x)) j (some y), frz own (i :: j :: (varsE a ++ varsE b))), .nx) st := rfl
@[simp] theorem evS_exp : evS g (.exp e) (env, own) st = (evE g e env st).bind fun _ st => .ok ((env, frz own (varsE e)), .nx) st := rfl
@[simp] theorem evS_ret : evS g (.ret e) (env, own) st = (evE g e env st).bind fun d st => .ok ((env, own), .ret d) st := rfl
@[simp] theorem evS_retN : evS g .retN s st = .ok (s, .ret .non) st := rfl
@[simp] theorem evS_pass : evS g .pass s st = .ok (s, .nx) st := rfl
@[simp] theorem evS_cont : evS g .cont s st = .ok (s, .ct) st := rfl
@[simp] theorem evS_ite : evS g (.ite c sa sb) (env, own) st = (evT g c env st).bind fun k st => if k then evSs g sa (env, frz own (varsE c)) st else evSs g sb (env, frz own (varsE c)) st := rfl
theorem evS_app : evS g (.app i e) (env, own) st = if (frz own (varsE e)).contains i then (ofO (lk env i) st).bind fun l st => (ofO (asL l) st).bind fun ds st => (evE g e env st).bind fun d st =>
        if ds.length ≤ 1000000 then .ok ((st1 env i (some (.lst (ds ++ [d]))), frz own (varsE e)), .nx) st else .stuck
      else .stuck := rfl
theorem evS_ext : evS g (.ext i e) (env, own) st = if (frz own (varsE e)).contains i then (ofO (lk env i) st).bind fun l st => (ofO (asL l) st).bind fun ds st => (evE g e env st).bind fun d st => (ofO (asL d) st).bind fun es st =>
        if ds.length + es.length ≤ 1000000 then .ok ((st1 env i (some (.lst (ds ++ es))), frz own (varsE e)), .nx) st else .stuck
      else .stuck := rfl
theorem evS_pop : evS g (.pop tg i) (env, own) st = if (frz own (tgs tg)).contains i then (ofO (lk env i) st).bind fun l st => (ofO (asL l) st).bind fun ds st => (ofO ds.getLast? st).bind fun d st =>
        (ofO (bindT tg d (st1 env i (some (.lst ds.dropLast)))) st).bind fun env st => .ok ((env, frz own (tgs tg)), .nx) st
      else .stuck := rfl
/-- one turn of a for -/
noncomputable def forF (g : G) (tg : Tg) (b : Ss) (d : D) (s : Sta) (st : DS) : Res Out := (ofO (bindT tg d s.1) st).bind fun env st => evSs g b (env, frz s.2 (tgs tg)) st
@[simp] theorem evS_for : evS g (.for_ tg it ss) (env, own) st = (evI g it env st).bind fun ds st => foldF (forF g tg ss) ds (env, frz own (varsI it)) st := rfl
/-- one turn of a while -/
noncomputable def whF (g : G) (c : E) (b : Ss) (s : Sta) (st : DS) : Res (Sta ⊕ Out) := (evT g c s.1 st).bind fun k st => if k then (evSs g b (s.1, frz s.2 (varsE c)) st).bind fun r st => match r.2 with
        | .ret x => .ok (.inr (r.1, .ret x)) st
        | _ => .ok (.inl r.1) st
      else .ok (.inr ((s.1, frz s.2 (varsE c)), .nx)) st
@[simp] theorem evS_while : evS g (.while_ c ss) s st = loopR (whF g c ss) s st := rfl
@[simp] theorem evS_raise : evS g (.raise x es) (env, own) st = (evEs g es env st).bind fun ds st => .raise x ds st := rfl
@[simp] theorem evS_raise0 : evS g (.raise0 x) (env, own) st = .raise x [] st := rfl
@[simp] theorem evS_drSet : evS g (.drSet i f e) (env, own) st = (evE g e env st).bind fun d st => (ofO (asI d) st).bind fun k st => if isDrw (lk env i) then (ofO (drPutS f k st) st).bind fun st' _ => .ok ((env, frz own (i :: varsE e)), .nx) st' else .stuck := rfl
@[simp] theorem evT_eq : evT g c env st = (evE g c env st).bind fun x st => ofO (asB x) st := rfl
@[simp] theorem foldF_nil (F : D → Sta → DS → Res Out) : foldF F [] s st = .ok (s, .nx) st := rfl
@[simp] theorem foldF_cons (F : D → Sta → DS → Res Out) (d : D) (ds : List D) : foldF F (d :: ds) s st = (F d s st).bind fun r st => match r.2 with
    | .ret x => .ok (r.1, .ret x) st
    | _ => foldF F ds r.1 st := rfl
/-- a body's answer -/
def endR (r : Res Out) : Res D := r.bind fun r st => match r.2 with
    | .ret d => .ok d st
    | .nx => .ok .non st
    | .ct => .stuck
@[simp] theorem endR_ret (s : Sta) (d : D) (st : DS) : endR (.ok (s, .ret d) st) = .ok d st := rfl
@[simp] theorem endR_nx (s : Sta) (st : DS) : endR (.ok (s, .nx) st) = .ok .non st := rfl
@[simp] theorem endR_raise (c : Str) (fs : List D) (st : DS) : endR (.raise c fs st) = .raise c fs st := rfl
@[simp] theorem callB_0 {m : Nat} {b : Ss} : callB g 0 m b [] st = endR (evSs g b (env0 m [], []) st) := if_pos rfl
@[simp] theorem callB_1 {m : Nat} {b : Ss} {x : D} : callB g 1 m b [x] st = endR (evSs g b (env0 m [x], []) st) := if_pos rfl
@[simp] theorem callB_2 {m : Nat} {b : Ss} {x y : D} : callB g 2 m b [x, y] st = endR (evSs g b (env0 m [x, y], []) st) := if_pos rfl
@[simp] theorem callB_3 {m : Nat} {b : Ss} {x y z : D} : callB g 3 m b [x, y, z] st = endR (evSs g b (env0 m [x, y, z], []) st) := if_pos rfl
@[simp] theorem callB_4 {m : Nat} {b : Ss} {x y z u : D} : callB g 4 m b [x, y, z, u] st = endR (evSs g b (env0 m [x, y, z, u], []) st) := if_pos rfl
end
/-! ### small operations -/
@[simp] theorem frz_nil (vs : List Nat) : frz [] vs = [] := rfl
@[simp] theorem claim_false (own : List Nat) (i : Nat) (d : D) : claim own i false d = own := rfl
@[simp] theorem lk_0 (d : Option D) (r : Env) : lk (d :: r) 0 = d := rfl
@[simp] theorem lk_s (d : Option D) (r : Env) (i : Nat) : lk (d :: r) (i + 1) = lk r i := rfl
@[simp] theorem st1_0 (d x : Option D) (r : Env) : st1 (d :: r) 0 x = x :: r := rfl
@[simp] theorem st1_s (d x : Option D) (r : Env) (i : Nat) : st1 (d :: r) (i + 1) x = d :: st1 r i x := rfl
@[simp] theorem asB_bl (b : Bool) : asB (.bl b) = some b := rfl
@[simp] theorem asI_int (b : Int) : asI (.int b) = some b := rfl
@[simp] theorem asS_str (b : Str) : asS (.str b) = some b := rfl
section
variable (i j : Int) (xs ys : List D) (x y : D)
@[simp] theorem bin_add : binop .add (.int i) (.int j) = some (.int (i + j)) := rfl
@[simp] theorem bin_sub : binop .sub (.int i) (.int j) = some (.int (i - j)) := rfl
theorem bin_mul (h : sizeOk i j = true) : binop .mul (.int i) (.int j) = some (.int (i * j)) := if_pos h
theorem bin_fdiv (h : j ≠ 0) (h2 : j.natAbs.log2 < 9000) : binop .fdiv (.int i) (.int j) = some (.int (i.fdiv j)) := if_pos ⟨h, h2⟩
theorem bin_mod (h : 0 < j) : binop .mod (.int i) (.int j) = some (.int (i % j)) := if_pos h
theorem bin_addL (h : xs.length + ys.length ≤ 1000000) : binop .add (.lst xs) (.lst ys) = some (.lst (xs ++ ys)) := if_pos h
theorem bin_addT (h : xs.length + ys.length ≤ 1000000) : binop .add (.tup xs) (.tup ys) = some (.tup (xs ++ ys)) := if_pos h
theorem bin_addS (a b : Str) (h : a.length + b.length ≤ 1000000) : binop .add (.str a) (.str b) = some (.str (a ++ b)) := if_pos h
@[simp] theorem cmp_lt : cmpop .lt (.int i) (.int j) = some (decide (i < j)) := rfl
@[simp] theorem cmp_le : cmpop .le (.int i) (.int j) = some (decide (i ≤ j)) := rfl
@[simp] theorem cmp_gt : cmpop .gt (.int i) (.int j) = some (decide (j < i)) := rfl
@[simp] theorem cmp_ge : cmpop .ge (.int i) (.int j) = some (decide (j ≤ i)) := rfl
@[simp] theorem cmp_is : cmpop .is x y = isD x y := rfl
@[simp] theorem cmp_isnot : cmpop .isnot x y = (isD x y).map (!·) := rfl
@[simp] theorem cmp_in : cmpop .isin x y = isinD x y := rfl
@[simp] theorem cmp_notin : cmpop .notin x y = (isinD x y).map (!·) := rfl
@[simp] theorem eqN_int (n : Nat) : eqN n (.int i) = true := by simp [eqN]
@[simp] theorem eqN_non (n : Nat) : eqN n .non = true := by simp [eqN]
@[simp] theorem eqN_bl (n : Nat) (b : Bool) : eqN n (.bl b) = true := by simp [eqN]
@[simp] theorem eqN_str (n : Nat) (s : Str) : eqN n (.str s) = PyData.strOk s := by simp [eqN]
@[simp] theorem eqN_tup (n : Nat) : eqN (n + 1) (.tup xs) = xs.all (eqN n) := by simp [eqN]
@[simp] theorem eqN_lst (n : Nat) : eqN (n + 1) (.lst xs) = xs.all (eqN n) := by simp [eqN]
theorem cmp_eq (h1 : eqN 60 x = true) (h2 : eqN 60 y = true) : cmpop .eq x y = some (eqD x y) := if_pos (by rw [h1, h2]; rfl)
theorem cmp_ne (h1 : eqN 60 x = true) (h2 : eqN 60 y = true) : cmpop .ne x y = some (!eqD x y) := if_pos (by rw [h1, h2]; rfl)
theorem eqD_int : eqD (.int i) (.int j) = decide (i = j) := by
  simp only [eqD, pyI]
  by_cases h : i = j
  · subst h; simp
  · have h' : ¬ j = i := fun e => h e.symm
    simp [h, h']
@[simp] theorem cmp_eqI : cmpop .eq (.int i) (.int j) = some (decide (i = j)) := (cmp_eq _ _ (eqN_int i 60) (eqN_int j 60)).trans (congrArg some (eqD_int i j))
@[simp] theorem cmp_neI : cmpop .ne (.int i) (.int j) = some (decide (i ≠ j)) := (cmp_ne _ _ (eqN_int i 60) (eqN_int j 60)).trans (congrArg some (by rw [eqD_int]; simp))
@[simp] theorem is_bl (a b : Bool) : isD (.bl a) (.bl b) = some (a == b) := rfl
@[simp] theorem is_non : isD x .non = some (isNonD x) := by cases x <;> rfl
theorem ixN_1 (n : Nat) : ixN (n + 1 + 1) 1 = some 1 := by
  unfold ixN
  rw [if_pos (by decide), if_pos (by omega)]
  rfl
theorem ixN_0 (n : Nat) : ixN (n + 1) 0 = some 0 := by
  unfold ixN
  rw [if_pos (by decide), if_pos (by omega)]
  rfl
@[simp] theorem ix_t0 : ixop (.tup (x :: xs)) (.int 0) = some x := by show (ixN _ _).bind _ = _; rw [List.length_cons, ixN_0]; rfl
@[simp] theorem ix_t1 : ixop (.tup (x :: y :: xs)) (.int 1) = some y := by show (ixN _ _).bind _ = _; rw [List.length_cons, List.length_cons, ixN_1]; rfl
@[simp] theorem ix_l0 : ixop (.lst (x :: xs)) (.int 0) = some x := by show (ixN _ _).bind _ = _; rw [List.length_cons, ixN_0]; rfl
@[simp] theorem ix_l1 : ixop (.lst (x :: y :: xs)) (.int 1) = some y := by show (ixN _ _).bind _ = _; rw [List.length_cons, List.length_cons, ixN_1]; rfl
@[simp] theorem len_t : lenD (.tup xs) = some (xs.length : Int) := rfl
@[simp] theorem len_l : lenD (.lst xs) = some (xs.length : Int) := rfl
@[simp] theorem b1_len : b1op .len x = (lenD x).map .int := rfl
@[simp] theorem b1_int : b1op .int (.int i) = some (.int i) := rfl
@[simp] theorem b1_abs : b1op .abs (.int i) = some (.int i.natAbs) := rfl
@[simp] theorem b1_tupL : b1op .tuple (.lst xs) = some (.tup xs) := rfl
@[simp] theorem b1_tupT : b1op .tuple (.tup xs) = some (.tup xs) := rfl
@[simp] theorem b1_list : b1op .list x = listD x := rfl
@[simp] theorem listD_l : listD (.lst xs) = some (.lst xs) := rfl
@[simp] theorem listD_t : listD (.tup xs) = some (.lst xs) := rfl
@[simp] theorem items_t : itemsD (.tup xs) = some xs := rfl
@[simp] theorem items_l : itemsD (.lst xs) = some xs := rfl
@[simp] theorem gcdI_ii : gcdI (.int i) (.int j) = some (.int (Int.gcd i j)) := rfl
@[simp] theorem part_n : partD [] = some none := rfl
@[simp] theorem part_1 : partD [.int i] = some (some i) := rfl
@[simp] theorem zipD_l : zipD (.lst xs) (.lst ys) = some (zip2 xs ys) := rfl
@[simp] theorem zipD_t : zipD (.tup xs) (.tup ys) = some (zip2 xs ys) := rfl
@[simp] theorem bindT_nm (d : D) (env : Env) (n : Nat) : bindT (.nm n) d env = some (st1 env n (some d)) := rfl
@[simp] theorem bindT_tp (ds : List D) (is : List Nat) (env : Env) : bindT (.tp is) (.tup ds) env = bindL is ds env := rfl
@[simp] theorem bindL_nil (env : Env) : bindL [] [] env = some env := rfl
@[simp] theorem bindL_cons (n : Nat) (is : List Nat) (d : D) (ds : List D) (env : Env) : bindL (n :: is) (d :: ds) env = bindL is ds (st1 env n (some d)) := rfl
@[simp] theorem wipe_nil (env : Env) : wipeE env [] = env := rfl
@[simp] theorem wipe_cons (env : Env) (v : Nat) (vs : List Nat) : wipeE env (v :: vs) = st1 (wipeE env vs) v none := rfl
end
/-! ### comprehensions -/
@[simp] theorem mapR_nil (F : D → DS → Res (Option D)) (st : DS) : mapR F [] st = .ok [] st := rfl
/-- a comprehension that draws nothing -/
theorem mapR_pure {F : D → DS → Res (Option D)} {h : D → Option D} {st : DS} {ds : List D} (hh : ∀ d ∈ ds, F d st = .ok (h d) st) : mapR F ds st = .ok (ds.filterMap h) st := by
  induction ds with
  | nil => rfl
  | cons d ds ih =>
    rw [mapR, hh d List.mem_cons_self, Res.bind_ok, ih fun e he => hh e (List.mem_cons_of_mem _ he), Res.bind_ok, List.filterMap_cons]
    cases h d <;> rfl
theorem mapR_map {F : D → DS → Res (Option D)} {h : D → D} {st : DS} {ds : List D} (hh : ∀ d ∈ ds, F d st = .ok (some (h d)) st) : mapR F ds st = .ok (ds.map h) st := by
  rw [mapR_pure (h := fun d => some (h d)) hh, List.filterMap_eq_map']
/-- there is an answer, and it is so -/
def Ok {α : Type} (r : Res α) (P : α → DS → Prop) : Prop := ∃ a st, r = .ok a st ∧ P a st
theorem Ok.bind {α β : Type} {r : Res α} {f : α → DS → Res β} {P : α → DS → Prop} {Q : β → DS → Prop} (h : Ok r P) (k : ∀ a st, P a st → Ok (f a st) Q) : Ok (r.bind f) Q := by
  obtain ⟨a, st, e, p⟩ := h
  rw [e]
  exact k a st p
theorem Ok.mono {α : Type} {r : Res α} {P Q : α → DS → Prop} (h : Ok r P) (k : ∀ a st, P a st → Q a st) : Ok r Q := by
  obtain ⟨a, st, e, p⟩ := h
  exact ⟨a, st, e, k a st p⟩
theorem Ok.of {α : Type} {a : α} {st : DS} {P : α → DS → Prop} (h : P a st) : Ok (.ok a st) P := ⟨a, st, rfl, h⟩
theorem Ok.eq {α : Type} {r r' : Res α} {P : α → DS → Prop} (h : Ok r P) (e : r' = r) : Ok r' P := e ▸ h
/-- a comprehension that draws: of n turns, each with an answer that is so -/
theorem mapR_ok2 {F : D → DS → Res (Option D)} {I : DS → Prop} {P : D → Prop} : ∀ {ds : List D} {st : DS}, I st → (∀ d ∈ ds, ∀ st, I st → Ok (F d st) fun r st' => (∃ x, r = some x ∧ P x) ∧ I st') → Ok (mapR F ds st) fun rs st' => rs.length = ds.length ∧ (∀ x ∈ rs, P x) ∧ I st'
  | [], st, hI, _ => .of ⟨rfl, fun _ h => (nomatch h), hI⟩
  | d :: ds, st, hI, h => by
    refine Ok.bind (h d List.mem_cons_self st hI) fun r st1 ⟨⟨x, e, px⟩, h1⟩ => ?_
    subst e
    refine Ok.bind (mapR_ok2 h1 fun d' hd => h d' (List.mem_cons_of_mem _ hd)) fun rs st2 ⟨e1, e2, h2⟩ => ?_
    exact .of ⟨by simp [e1], fun y hy => by
      rcases List.mem_cons.mp hy with e | hy
      · rw [e]; exact px
      · exact e2 y hy, h2⟩
end Ev
/-! Pr1: ratios, over Rat. -/
namespace Ev
open PySem L2
abbrev dR (r : Rat) : D := .tup [.int r.num, .int (r.den : Int)]
/-- a ratio of numbers below 2 ^ k -/
def Sm (k : Nat) (r : Rat) : Prop := r.num.natAbs < 2 ^ k ∧ r.den < 2 ^ k
theorem Sm.mono {j k : Nat} {r : Rat} (h : Sm j r) (l : j ≤ k) : Sm k r := ⟨Nat.lt_of_lt_of_le h.1 (Nat.pow_le_pow_right (by decide) l), Nat.lt_of_lt_of_le h.2 (Nat.pow_le_pow_right (by decide) l)⟩
theorem g_pos {a b : Int} (hb : b ≠ 0) : 0 < Int.gcd a b := Int.gcd_pos_of_ne_zero_right _ hb
theorem low_pos (a b : Int) (hb : 0 < b) : (.tup [.int (a.fdiv (Int.gcd a b)), .int (b.fdiv (Int.gcd a b))] : D) = dR (Rat.divInt a b) := by
  have h1 : (Int.gcd a b : Int) ∣ a := Int.gcd_dvd_left a b
  have h2 : (Int.gcd a b : Int) ∣ b := Int.gcd_dvd_right a b
  unfold dR
  rw [Int.fdiv_eq_ediv_of_dvd h1, Int.fdiv_eq_ediv_of_dvd h2, Rat.num_divInt, Rat.den_divInt, if_neg (by omega), Int.sign_eq_one_of_pos hb, Int.one_mul, Int.gcd_comm b a]
  have : (b.natAbs / Int.gcd a b : Nat) = ((b / (Int.gcd a b : Int)) : Int) := by
    rw [Int.natCast_ediv, Int.natAbs_of_nonneg (by omega)]
  rw [this]
theorem low_neg (a b : Int) (hb : b < 0) : (.tup [.int (a.fdiv (-(Int.gcd a b : Int))), .int (b.fdiv (-(Int.gcd a b : Int)))] : D) = dR (Rat.divInt a b) := by
  have h1 : (Int.gcd a b : Int) ∣ a := Int.gcd_dvd_left a b
  have h2 : (Int.gcd a b : Int) ∣ b := Int.gcd_dvd_right a b
  have hg := g_pos (a := a) (b := b) (by omega)
  have n1 : a.fdiv (-(Int.gcd a b : Int)) = -(a / (Int.gcd a b : Int)) := Int.fdiv_eq_of_eq_mul_right (by omega) (by rw [Int.neg_mul_neg, Int.mul_ediv_cancel' h1])
  have n2 : b.fdiv (-(Int.gcd a b : Int)) = -(b / (Int.gcd a b : Int)) := Int.fdiv_eq_of_eq_mul_right (by omega) (by rw [Int.neg_mul_neg, Int.mul_ediv_cancel' h2])
  unfold dR
  rw [n1, n2, Rat.num_divInt, Rat.den_divInt, if_neg (by omega), Int.sign_eq_neg_one_of_neg hb, Int.gcd_comm b a]
  have e1 : -1 * a / (Int.gcd a b : Int) = -(a / (Int.gcd a b : Int)) := by
    rw [Int.neg_mul, Int.one_mul, Int.neg_ediv_of_dvd h1]
  have e2 : (b.natAbs / Int.gcd a b : Nat) = (-(b / (Int.gcd a b : Int)) : Int) := by
    rw [Int.natCast_ediv, ← Int.neg_ediv_of_dvd h2, show ((b.natAbs : Nat) : Int) = -b by omega]
  rw [e1, e2]
/-- the same, as the law has it -/
theorem low_neg' (a b : Int) (hb : b < 0) : (.tup [.int ((-a).fdiv (Int.gcd a b : Int)), .int ((-b).fdiv (Int.gcd a b : Int))] : D) = dR (Rat.divInt a b) := by
  have h1 : (Int.gcd a b : Int) ∣ a := Int.gcd_dvd_left a b
  have h2 : (Int.gcd a b : Int) ∣ b := Int.gcd_dvd_right a b
  have hg := g_pos (a := a) (b := b) (by omega)
  rw [← low_neg a b hb]
  have n1 : a.fdiv (-(Int.gcd a b : Int)) = -(a / (Int.gcd a b : Int)) := Int.fdiv_eq_of_eq_mul_right (by omega) (by rw [Int.neg_mul_neg, Int.mul_ediv_cancel' h1])
  have n2 : b.fdiv (-(Int.gcd a b : Int)) = -(b / (Int.gcd a b : Int)) := Int.fdiv_eq_of_eq_mul_right (by omega) (by rw [Int.neg_mul_neg, Int.mul_ediv_cancel' h2])
  rw [n1, n2, Int.fdiv_eq_ediv_of_dvd (Int.dvd_neg.mpr h1), Int.fdiv_eq_ediv_of_dvd (Int.dvd_neg.mpr h2), Int.neg_ediv_of_dvd h1, Int.neg_ediv_of_dvd h2]
theorem log2_lt {n k : Nat} (hk : 0 < k) (h : n < 2 ^ k) : n.log2 < k := by
  by_cases h0 : n = 0
  · subst h0; simpa using hk
  · exact (Nat.log2_lt h0).mpr h
theorem size_ok {i j : Int} {a b : Nat} (h1 : i.natAbs < 2 ^ a) (h2 : j.natAbs < 2 ^ b) (h : a + b ≤ 999990) : sizeOk i j = true := by
  unfold sizeOk
  have e1 := log2_lt (n := i.natAbs) (k := a + 1) (by omega) (Nat.lt_of_lt_of_le h1 (Nat.pow_le_pow_right (by decide) (by omega)))
  have e2 := log2_lt (n := j.natAbs) (k := b + 1) (by omega) (Nat.lt_of_lt_of_le h2 (Nat.pow_le_pow_right (by decide) (by omega)))
  exact decide_eq_true (by omega)
theorem gcd_log {a b : Int} (hb : b ≠ 0) (h : b.natAbs < 2 ^ 8999) : (Int.gcd a b).log2 < 9000 :=
  log2_lt (by decide) (Nat.lt_of_le_of_lt (Nat.le_of_dvd (by omega) (Int.gcd_dvd_natAbs_right a b)) (Nat.lt_of_lt_of_le h (Nat.pow_le_pow_right (by decide) (by decide))))
def HLow (g : G) (f : Str) : Prop := ∀ (a b : Int) (st : DS), b ≠ 0 → b.natAbs < 2 ^ 8999 → g.call f [.int a, .int b] st = .ok (dR (Rat.divInt a b)) st
theorem lowest_ok (g : G) (a b : Int) (st : DS) (hb : b ≠ 0) (h : b.natAbs < 2 ^ 8999) : callB g 2 3 Pre.t_lowest [.int a, .int b] st = .ok (dR (Rat.divInt a b)) st := by
  have hg := g_pos (a := a) hb
  have hl := gcd_log (a := a) hb h
  by_cases hp : 0 < b
  · simp [Pre.t_lowest, env0, hp, bin_fdiv a (Int.gcd a b) (by omega) hl, bin_fdiv b (Int.gcd a b) (by omega) hl, low_pos a b hp]
  · have hn : b < 0 := by omega
    simp [Pre.t_lowest, env0, hp, bin_fdiv a (-(Int.gcd a b : Int)) (by omega) (by simpa using hl), bin_fdiv b (-(Int.gcd a b : Int)) (by omega) (by simpa using hl), low_neg a b hn]
theorem q_loop (g : G) (n d : Option D) (st : DS) : ∀ (b a : Nat), loopR (whF g (.cmp .gt (.bor 3) (.int 0)) (.cons (.par 2 3 (.var 3) (.bin .mod (.b1 .int (.bor 2)) (.bor 3))) .nil)) ([n, d, some (.int a), some (.int b)], []) st =
    .ok (([n, d, some (.int (Nat.gcd a b : Nat)), some (.int 0)], []), .nx) st := by
  intro b
  induction b using Nat.strongRecOn with
  | ind b ih =>
    intro a
    rw [loopR_unroll]
    by_cases hb : b = 0
    · subst hb
      simp [whF]
    · have hp : (0 : Int) < (b : Int) := by omega
      have hlt : a % b < b := Nat.mod_lt _ (by omega)
      have e := ih (a % b) hlt b
      simp only [whF, evT_eq, evE_cmp, evE_bor, evE_int, lk_0, lk_s, ofO_some, Res.bind_ok, cmp_gt, Option.map_some, asB_bl, hp, decide_true, if_true, evSs_cons, evSs_nil, evS_par, evE_var, evE_bin, evE_b1, b1_int, bin_mod _ _ hp, st1_0, st1_s, frz_nil]
      rw [show ((a : Int) % (b : Int)) = ((a % b : Nat) : Int) by rw [Int.natCast_emod]]
      rw [e, Nat.gcd_comm a b, Nat.gcd_rec b a]
      rw [Nat.gcd_comm b (a % b)]
theorem law_q_ok (g : G) (a b : Int) (st : DS) (hb : b ≠ 0) (h : b.natAbs < 2 ^ 8999) : callB g 2 4 Pre.t_law_q [.int a, .int b] st = .ok (dR (Rat.divInt a b)) st := by
  have hg := g_pos (a := a) hb
  have hl := gcd_log (a := a) hb h
  have eg : Nat.gcd a.natAbs b.natAbs = Int.gcd a b := rfl
  have lp := q_loop g (some (.int a)) (some (.int b)) st b.natAbs a.natAbs
  rw [eg] at lp
  by_cases hp : 0 < b
  · simp [Pre.t_law_q, env0, lp, hp, bin_fdiv a (Int.gcd a b) (by omega) hl, bin_fdiv b (Int.gcd a b) (by omega) hl, low_pos a b hp]
  · have hn : b < 0 := by omega
    simp [Pre.t_law_q, env0, lp, hp, bin_fdiv (-a) (Int.gcd a b) (by omega) hl, bin_fdiv (-b) (Int.gcd a b) (by omega) hl, low_neg' a b hn]
end Ev
/-! Pr2: sums, products, shares. -/
namespace Ev
open PySem L2
theorem divInt_num_le (a b : Int) : (Rat.divInt a b).num.natAbs ≤ a.natAbs := by
  rw [Rat.num_divInt]
  refine Nat.le_trans (Int.natAbs_ediv_le_natAbs _ _) ?_
  rw [Int.natAbs_mul]
  have : b.sign.natAbs ≤ 1 := by
    rcases Int.lt_trichotomy b 0 with h | h | h
    · rw [Int.sign_eq_neg_one_of_neg h]; decide
    · rw [h]; decide
    · rw [Int.sign_eq_one_of_pos h]; decide
  calc b.sign.natAbs * a.natAbs ≤ 1 * a.natAbs := Nat.mul_le_mul_right _ this
    _ = a.natAbs := Nat.one_mul _
theorem divInt_den_le (a b : Int) (hb : b ≠ 0) : (Rat.divInt a b).den ≤ b.natAbs := by
  rw [Rat.den_divInt, if_neg hb]
  exact Nat.div_le_self _ _
theorem Sm.divInt {a b : Int} {k : Nat} (h1 : a.natAbs < 2 ^ k) (h2 : b.natAbs < 2 ^ k) (hb : b ≠ 0) : Sm k (Rat.divInt a b) := ⟨Nat.lt_of_le_of_lt (divInt_num_le a b) h1, Nat.lt_of_le_of_lt (divInt_den_le a b hb) h2⟩
theorem den_ne (r : Rat) : (r.den : Int) ≠ 0 := by have := r.den_nz; omega
theorem add_eq (r s : Rat) : r + s = Rat.divInt (r.num * s.den + s.num * r.den) (r.den * s.den) := by
  conv => lhs; rw [← Rat.num_divInt_den r, ← Rat.num_divInt_den s]
  rw [Rat.divInt_add_divInt _ _ (den_ne r) (den_ne s)]
theorem mul_eq (r s : Rat) : r * s = Rat.divInt (r.num * s.num) (r.den * s.den) := by
  conv => lhs; rw [← Rat.num_divInt_den r, ← Rat.num_divInt_den s]
  rw [Rat.divInt_mul_divInt]
theorem sub_eq (r s : Rat) : r - s = Rat.divInt (r.num * s.den - s.num * r.den) (r.den * s.den) := by
  rw [Rat.sub_eq_add_neg, add_eq, Rat.neg_num, Rat.neg_den, Int.neg_mul, Int.sub_eq_add_neg]
theorem div_eq (r s : Rat) : r / s = Rat.divInt (r.num * s.den) (r.den * s.num) := by
  rw [Rat.div_def]
  conv => lhs; rw [← Rat.num_divInt_den r, ← Rat.num_divInt_den s]
  rw [Rat.inv_divInt, Rat.divInt_mul_divInt]
theorem mul_lt {a b : Int} {j k : Nat} (h1 : a.natAbs < 2 ^ j) (h2 : b.natAbs < 2 ^ k) : (a * b).natAbs < 2 ^ (j + k) := by
  rw [Int.natAbs_mul, Nat.pow_add]
  exact Nat.mul_lt_mul'' h1 h2
theorem add_lt {a b : Int} {k : Nat} (h1 : a.natAbs < 2 ^ k) (h2 : b.natAbs < 2 ^ k) : (a + b).natAbs < 2 ^ (k + 1) := by
  have := Int.natAbs_add_le a b
  rw [Nat.pow_succ]; omega
theorem Sm.d {k : Nat} {r : Rat} (h : Sm k r) : (r.den : Int).natAbs < 2 ^ k := by simpa using h.2
theorem den_mul_ne (r s : Rat) : (r.den : Int) * (s.den : Int) ≠ 0 := Int.mul_ne_zero (den_ne r) (den_ne s)
theorem Sm.add {j k : Nat} {r s : Rat} (h1 : Sm j r) (h2 : Sm k s) : Sm (j + k + 1) (r + s) := by
  rw [add_eq]
  refine Sm.divInt (add_lt (mul_lt h1.1 h2.d) ?_) ?_ (den_mul_ne r s)
  · rw [Nat.add_comm]; exact mul_lt h2.1 h1.d
  · exact Nat.lt_of_lt_of_le (mul_lt h1.d h2.d) (Nat.pow_le_pow_right (by decide) (by omega))
theorem Sm.sub {j k : Nat} {r s : Rat} (h1 : Sm j r) (h2 : Sm k s) : Sm (j + k + 1) (r - s) := by
  rw [Rat.sub_eq_add_neg]
  exact h1.add ⟨by rw [Rat.neg_num, Int.natAbs_neg]; exact h2.1, by rw [Rat.neg_den]; exact h2.2⟩
theorem Sm.mul {j k : Nat} {r s : Rat} (h1 : Sm j r) (h2 : Sm k s) : Sm (j + k) (r * s) := by
  rw [mul_eq]
  exact Sm.divInt (mul_lt h1.1 h2.1) (mul_lt h1.d h2.d) (den_mul_ne r s)
theorem num_ne {s : Rat} (h : s ≠ 0) : s.num ≠ 0 := fun e => h (Rat.num_eq_zero.mp e)
theorem Sm.div {j k : Nat} {r s : Rat} (h1 : Sm j r) (h2 : Sm k s) (h : s ≠ 0) : Sm (j + k) (r / s) := by
  rw [div_eq]
  exact Sm.divInt (mul_lt h1.1 h2.d) (mul_lt h1.d h2.1) (Int.mul_ne_zero (den_ne r) (num_ne h))
/-- two ratios, for a def -/
def HBin (g : G) (f : Str) (o : Rat → Rat → Rat) : Prop := ∀ (r s : Rat) (st : DS), Sm 4000 r → Sm 4000 s → g.call f [dR r, dR s] st = .ok (dR (o r s)) st
def HOver (g : G) (f : Str) : Prop := ∀ (r s : Rat) (st : DS), Sm 4000 r → Sm 4000 s → s ≠ 0 → g.call f [dR r, dR s] st = .ok (dR (r / s)) st
def HLess (g : G) (f : Str) : Prop := ∀ (r s : Rat) (st : DS), Sm 4000 r → Sm 4000 s → g.call f [dR r, dR s] st = .ok (.bl (decide (r < s))) st
theorem lt8 {a b : Int} (h1 : a.natAbs < 2 ^ 4000) (h2 : b.natAbs < 2 ^ 4000) : (a * b).natAbs < 2 ^ 8999 := Nat.lt_of_lt_of_le (mul_lt h1 h2) (Nat.pow_le_pow_right (by decide) (by decide))
theorem sz8 {a b : Int} (h1 : a.natAbs < 2 ^ 4000) (h2 : b.natAbs < 2 ^ 4000) : sizeOk a b = true := size_ok h1 h2 (by decide)
section
variable {g : G} {r s : Rat} {st : DS} (h1 : Sm 4000 r) (h2 : Sm 4000 s)
theorem plus_ok (hl : HLow g "lowest") (h1 : Sm 4000 r) (h2 : Sm 4000 s) : callB g 2 2 Pre.t_plus [dR r, dR s] st = .ok (dR (r + s)) st := by
  simp [Pre.t_plus, env0, bin_mul _ _ (sz8 h1.1 h2.d), bin_mul _ _ (sz8 h2.1 h1.d), bin_mul _ _ (sz8 h1.d h2.d), hl _ _ st (den_mul_ne r s) (lt8 h1.d h2.d), add_eq]
theorem law_plus_ok (hl : HLow g "_law_q") (h1 : Sm 4000 r) (h2 : Sm 4000 s) : callB g 2 2 Pre.t_law_plus [dR r, dR s] st = .ok (dR (r + s)) st := by
  simp [Pre.t_law_plus, env0, bin_mul _ _ (sz8 h1.1 h2.d), bin_mul _ _ (sz8 h2.1 h1.d), bin_mul _ _ (sz8 h1.d h2.d), hl _ _ st (den_mul_ne r s) (lt8 h1.d h2.d), add_eq]
theorem times_ok (hl : HLow g "lowest") (h1 : Sm 4000 r) (h2 : Sm 4000 s) : callB g 2 2 Pre.t_times [dR r, dR s] st = .ok (dR (r * s)) st := by
  simp [Pre.t_times, env0, bin_mul _ _ (sz8 h1.1 h2.1), bin_mul _ _ (sz8 h1.d h2.d), hl _ _ st (den_mul_ne r s) (lt8 h1.d h2.d), mul_eq]
theorem law_times_ok (hl : HLow g "_law_q") (h1 : Sm 4000 r) (h2 : Sm 4000 s) : callB g 2 2 Pre.t_law_times [dR r, dR s] st = .ok (dR (r * s)) st := by
  simp [Pre.t_law_times, env0, bin_mul _ _ (sz8 h1.1 h2.1), bin_mul _ _ (sz8 h1.d h2.d), hl _ _ st (den_mul_ne r s) (lt8 h1.d h2.d), mul_eq]
theorem law_over_ok (hl : HLow g "_law_q") (h1 : Sm 4000 r) (h2 : Sm 4000 s) (h0 : s ≠ 0) : callB g 2 2 Pre.t_law_over [dR r, dR s] st = .ok (dR (r / s)) st := by
  simp [Pre.t_law_over, env0, bin_mul _ _ (sz8 h1.1 h2.d), bin_mul _ _ (sz8 h1.d h2.1), hl _ _ st (Int.mul_ne_zero (den_ne r) (num_ne h0)) (lt8 h1.d h2.1), div_eq]
theorem is_less_ok (h1 : Sm 4000 r) (h2 : Sm 4000 s) : callB g 2 2 Pre.t_is_less [dR r, dR s] st = .ok (.bl (decide (r < s))) st := by
  simp [Pre.t_is_less, env0, bin_mul _ _ (sz8 h1.1 h2.d), bin_mul _ _ (sz8 h2.1 h1.d), Rat.lt_iff]
theorem law_less_ok (h1 : Sm 4000 r) (h2 : Sm 4000 s) : callB g 2 2 Pre.t_law_less [dR r, dR s] st = .ok (.bl (decide (r < s))) st := by
  simp [Pre.t_law_less, env0, bin_mul _ _ (sz8 h1.1 h2.d), bin_mul _ _ (sz8 h2.1 h1.d), Rat.lt_iff]
end
/-- sums of lists -/
def rsum : List Rat → Rat := fun l => l.foldl (· + ·) 0
/-- a loop that carries one slot -/
theorem foldF_one {F : D → Sta → DS → Res Out} {α β : Type} (emb : α → D) (enc : β → D) (envOf : D → Option D → Env) (step : α → β → α) (I : α → Prop) (J : β → Prop) (st : DS) (hF : ∀ (x : β) (a : α) (j : Option D), J x → I a → F (enc x) (envOf (emb a) j, []) st = .ok ((envOf (emb (step a x)) (some (enc x)), []), .nx) st) :
    ∀ (l : List β) (a : α) (j : Option D), (∀ x ∈ l, J x) → (∀ k ≤ l.length, I ((l.take k).foldl step a)) → ∃ j', foldF F (l.map enc) (envOf (emb a) j, []) st = .ok ((envOf (emb (l.foldl step a)) j', []), .nx) st
  | [], a, j, _, _ => ⟨j, rfl⟩
  | x :: l, a, j, hJ, h => by
    have h0 : I a := h 0 (Nat.zero_le _)
    obtain ⟨j', e⟩ := foldF_one emb enc envOf step I J st hF l (step a x) (some (enc x)) (fun y hy => hJ y (List.mem_cons_of_mem _ hy)) fun k hk => h (k + 1) (by simpa using hk)
    refine ⟨j', ?_⟩
    rw [List.map_cons, foldF_cons, hF x a j (hJ x List.mem_cons_self) h0]
    exact e
theorem Sm.zero : Sm 1 0 := ⟨by decide, by decide⟩
theorem rsum_sm {k : Nat} {l : List Rat} (h : ∀ r ∈ l, Sm k r) : Sm (1 + (k + 1) * l.length) (rsum l) := by
  have key : ∀ (l : List Rat) (m : Nat) (a : Rat), (∀ r ∈ l, Sm k r) → Sm m a → Sm (m + (k + 1) * l.length) (l.foldl (· + ·) a) := by
    intro l
    induction l with
    | nil => intro m a _ ha; simpa using ha
    | cons x l ih =>
      intro m a h ha
      have := ih (m + k + 1) (a + x) (fun r hr => h r (List.mem_cons_of_mem _ hr)) (ha.add (h x List.mem_cons_self))
      rw [List.foldl_cons]
      refine this.mono ?_
      rw [List.length_cons, Nat.mul_add]; omega
  exact key l 1 0 h Sm.zero
def HSum (g : G) (f : Str) : Prop := ∀ (k : Nat) (l : List Rat) (st : DS), (∀ r ∈ l, Sm k r) → 1 + (k + 1) * l.length ≤ 4000 → g.call f [.lst (l.map dR)] st = .ok (dR (rsum l)) st ∧ g.call f [.tup (l.map dR)] st = .ok (dR (rsum l)) st
theorem sum_pre {k : Nat} {l : List Rat} (h : ∀ r ∈ l, Sm k r) (hk : 1 + (k + 1) * l.length ≤ 4000) : ∀ j ≤ l.length, Sm 4000 ((l.take j).foldl (· + ·) 0) := fun j hj => by
  refine (rsum_sm (l := l.take j) fun r hr => h r (List.mem_of_mem_take hr)).mono ?_
  rw [List.length_take]
  refine Nat.le_trans (Nat.add_le_add_left (Nat.mul_le_mul_left _ (Nat.min_le_right _ _)) _) hk
theorem item_sm {k : Nat} {l : List Rat} (h : ∀ r ∈ l, Sm k r) (hk : 1 + (k + 1) * l.length ≤ 4000) : ∀ r ∈ l, Sm 4000 r := fun r hr => (h r hr).mono (by
  have : 1 ≤ l.length := List.length_pos_of_mem hr
  have := Nat.mul_le_mul_left (k + 1) this
  omega)
theorem sum_loop {g : G} {f : Str} {k : Nat} {l : List Rat} {st : DS} (hp : HBin g f (· + ·)) (h : ∀ r ∈ l, Sm k r) (hk : 1 + (k + 1) * l.length ≤ 4000) (x : Option D) : ∃ j, foldF (forF g (.nm 2) (.cons (.asg (.nm 1) false (.call f (.cons (.var 1) (.cons (.var 2) .nil)))) .nil)) (l.map dR) ([x, some (dR 0), none], []) st =
    .ok (([x, some (dR (rsum l)), j], []), .nx) st :=
  foldF_one (α := Rat) (β := Rat) dR dR (fun a j => [x, some a, j]) (· + ·) (Sm 4000) (Sm 4000) st (fun r a j hr ha => by simp [forF, hp a r st ha hr]) l 0 none (item_sm h hk) (sum_pre h hk)
theorem total_ok {g : G} {k : Nat} {l : List Rat} {st : DS} (hp : HBin g "plus" (· + ·)) (hz : g.glob "ZERO" = some (dR 0)) (h : ∀ r ∈ l, Sm k r) (hk : 1 + (k + 1) * l.length ≤ 4000) :
    callB g 1 3 Pre.t_total [.lst (l.map dR)] st = .ok (dR (rsum l)) st ∧ callB g 1 3 Pre.t_total [.tup (l.map dR)] st = .ok (dR (rsum l)) st := by
  obtain ⟨j1, e1⟩ := sum_loop (st := st) hp h hk (some (.lst (l.map dR)))
  obtain ⟨j2, e2⟩ := sum_loop (st := st) hp h hk (some (.tup (l.map dR)))
  constructor
  · simp [Pre.t_total, env0, hz, e1]
  · simp [Pre.t_total, env0, hz, e2]
theorem law_sum_ok {g : G} {k : Nat} {l : List Rat} {st : DS} (hp : HBin g "_law_plus" (· + ·)) (h : ∀ r ∈ l, Sm k r) (hk : 1 + (k + 1) * l.length ≤ 4000) :
    callB g 1 3 Pre.t_law_sum [.lst (l.map dR)] st = .ok (dR (rsum l)) st ∧ callB g 1 3 Pre.t_law_sum [.tup (l.map dR)] st = .ok (dR (rsum l)) st := by
  obtain ⟨j1, e1⟩ := sum_loop (st := st) hp h hk (some (.lst (l.map dR)))
  obtain ⟨j2, e2⟩ := sum_loop (st := st) hp h hk (some (.tup (l.map dR)))
  rw [show dR 0 = .tup [.int 0, .int 1] from rfl] at e1 e2
  constructor
  · simp [Pre.t_law_sum, env0, e1]
  · simp [Pre.t_law_sum, env0, e2]
end Ev
/-! Pr3: which values are ratios, chances, shares. -/
namespace Ev
open PySem L2
def ty1 (d : D) : Bool := (tyN d).isSome
@[simp] theorem ty1_lst (l : List D) : ty1 (.lst l) = true := by simp [ty1, tyN]
@[simp] theorem ty1_tup (l : List D) : ty1 (.tup l) = true := by simp [ty1, tyN]
@[simp] theorem ty1_int (l : Int) : ty1 (.int l) = true := by simp [ty1, tyN]
@[simp] theorem ty1_bl (l : Bool) : ty1 (.bl l) = true := by simp [ty1, tyN]
@[simp] theorem ty1_str (l : Str) : ty1 (.str l) = true := by simp [ty1, tyN]
@[simp] theorem ty1_non : ty1 .non = true := by simp [ty1, tyN]
@[simp] theorem ty1_dK (l : List (Key × D)) : ty1 (.dK l) = true := by simp [ty1, tyN]
theorem isinT_b (g : G) (d : D) (ts : List Ty) (h : (ts.all fun t => (tyS t).isSome) = true) (hn : ty1 d = true) : isinT g d ts = some (ts.any (tyD d)) := by
  rw [isinT_of h]
  unfold isinB
  obtain ⟨s, e⟩ := Option.isSome_iff_exists.mp hn
  rw [e]; rfl
@[simp] theorem isin_int (g : G) (d : D) (hn : ty1 d = true) : isinT g d [.int] = some (tyD d .int) := by rw [isinT_b g d _ rfl hn]; simp
@[simp] theorem isin_bool (g : G) (d : D) (hn : ty1 d = true) : isinT g d [.bool] = some (tyD d .bool) := by rw [isinT_b g d _ rfl hn]; simp
@[simp] theorem isin_str (g : G) (d : D) (hn : ty1 d = true) : isinT g d [.str] = some (tyD d .str) := by rw [isinT_b g d _ rfl hn]; simp
@[simp] theorem isin_tuple (g : G) (d : D) (hn : ty1 d = true) : isinT g d [.tuple] = some (tyD d .tuple) := by rw [isinT_b g d _ rfl hn]; simp
@[simp] theorem isin_list (g : G) (d : D) (hn : ty1 d = true) : isinT g d [.list] = some (tyD d .list) := by rw [isinT_b g d _ rfl hn]; simp
@[simp] theorem isin_dict (g : G) (d : D) (hn : ty1 d = true) : isinT g d [.dict] = some (tyD d .dict) := by rw [isinT_b g d _ rfl hn]; simp
@[simp] theorem isin_lt (g : G) (d : D) (hn : ty1 d = true) : isinT g d [.list, .tuple] = some (tyD d .list || tyD d .tuple) := by rw [isinT_b g d _ rfl hn]; simp
@[simp] theorem isin_is (g : G) (d : D) (hn : ty1 d = true) : isinT g d [.int, .str] = some (tyD d .int || tyD d .str) := by rw [isinT_b g d _ rfl hn]; simp
def isW : D → Bool
  | .int _ => true
  | _ => false
def isRat : D → Bool
  | .tup [.int n, .int d] => decide (0 < d) && decide (Int.gcd n d = 1)
  | _ => false
def isCh : D → Bool
  | .tup [.int n, .int d] => isRat (.tup [.int n, .int d]) && (decide (0 ≤ n) && decide (n ≤ d))
  | _ => false
/-- a value that may be judged -/
def okR (v : D) : Prop := ty1 v = true ∧ ∀ ds, v = .tup ds → (∀ d ∈ ds, ty1 d = true) ∧ ∀ n d, ds = [.int n, .int d] → d.natAbs < 2 ^ 8999
theorem asBs_map {α : Type} (p : α → Bool) : ∀ l : List α, asBs (l.map fun d => .bl (p d)) = some (l.map p)
  | [] => rfl
  | x :: l => by
    show (match D.bl (p x), asBs (l.map fun d => D.bl (p d)) with | .bl b, some bs => some (b :: bs) | _, _ => none) = _
    rw [asBs_map p l]; rfl
@[simp] theorem asBs_nil : asBs [] = some [] := rfl
@[simp] theorem asBs_cons (b : Bool) (r : List D) : asBs (.bl b :: r) = (asBs r).map (b :: ·) := by
  show (match D.bl b, asBs r with | .bl b, some bs => some (b :: bs) | _, _ => none) = _
  cases asBs r <;> rfl
@[simp] theorem b1_allL (ds : List D) : b1op .all (.lst ds) = (asBs ds).map fun bs => .bl (bs.all id) := rfl
@[simp] theorem b1_anyL (ds : List D) : b1op .any (.lst ds) = (asBs ds).map fun bs => .bl (bs.any id) := rfl
theorem isW_int {x : D} (h : isW x = true) : ∃ n, x = .int n := by cases x <;> first | exact ⟨_, rfl⟩ | cases h
theorem b1_all {α : Type} (p : α → Bool) (l : List α) : b1op .all (.lst (l.map fun d => .bl (p d))) = some (.bl (l.all p)) := by
  show (asBs (l.map fun d => .bl (p d))).map _ = _
  rw [asBs_map]
  simp
theorem is_whole_ok (g : G) (d : D) (st : DS) (h : ty1 d = true) : callB g 1 1 Pre.t_is_whole [d] st = .ok (.bl (isW d)) st := by
  simp [Pre.t_is_whole, env0, h]
  cases d <;> simp [tyD, isW]
def HWhole (g : G) : Prop := ∀ (d : D) (st : DS), ty1 d = true → g.call "is_whole" [d] st = .ok (.bl (isW d)) st
/-- all([f(x) for x in ..]) -/
theorem compF_call {g : G} {f : Str} {p : D → D} {st : DS} {env : Env} {i : Nat} {d : D} (hi : lk (st1 (wipeE env [i]) i (some d)) i = some d) (h : g.call f [d] st = .ok (p d) st) : compF g [i] (.nm i) .nil (.call f (.cons (.var i) .nil)) env d st = .ok (some (p d)) st := by
  unfold compF
  simp only [bindT_nm, ofO_some, Res.bind_ok, evCs_nil, if_true, evE_call, evEs_cons, evEs_nil, evE_var, hi, h]
  rfl
theorem is_ratio_ok (g : G) (hw : HWhole g) (v : D) (st : DS) (h : okR v) : callB g 1 2 Pre.t_is_ratio [v] st = .ok (.bl (isRat v)) st := by
  obtain ⟨h1, h2⟩ := h
  cases v with
  | tup ds =>
    obtain ⟨h3, _⟩ := h2 ds rfl
    have hc : ∀ e : Option D, mapR (compF g [1] (.nm 1) .nil (.call "is_whole" (.cons (.var 1) .nil)) [some (.tup ds), e]) ds st = .ok (ds.map fun d => .bl (isW d)) st := fun e => mapR_map fun d hd => compF_call (p := fun d => .bl (isW d)) (by simp) (hw d st (h3 d hd))
    match ds, h3 with
    | [], _ => simp [Pre.t_is_ratio, env0, h1, isRat, tyD]
    | [x], _ => simp [Pre.t_is_ratio, env0, h1, isRat, tyD]
    | x :: y :: z :: r, _ =>
      have : ¬ ((r.length : Int) + 1 + 1 + 1 = 2) := by omega
      simp [Pre.t_is_ratio, env0, h1, isRat, tyD, this]
    | [x, y], h3 =>
      simp only [List.map_cons, List.map_nil] at hc
      by_cases hx : isW x = true
      · by_cases hy : isW y = true
        · obtain ⟨n, rfl⟩ := isW_int hx
          obtain ⟨d, rfl⟩ := isW_int hy
          by_cases hd : 0 < d
          · simp [Pre.t_is_ratio, env0, h1, tyD, hc, isW, isRat, hd]
            constructor <;> intro e <;> omega
          · simp [Pre.t_is_ratio, env0, h1, tyD, hc, isW, isRat, hd]
        · have e : isRat (.tup [x, y]) = false := by cases x <;> cases y <;> first | rfl | exact absurd rfl hy
          have hy : isW y = false := by simpa using hy
          simp [Pre.t_is_ratio, env0, h1, tyD, hc, hy, hx, e]
      · have e : isRat (.tup [x, y]) = false := by cases x <;> cases y <;> first | rfl | exact absurd rfl hx
        have hx : isW x = false := by simpa using hx
        simp [Pre.t_is_ratio, env0, h1, tyD, hc, hx, e]
  | _ => simp [Pre.t_is_ratio, env0, h1, isRat, tyD]
end Ev
/-! Pr4: the law's own judgements of ratios. -/
namespace Ev
open PySem L2
@[simp] theorem eqD_tup (a b : List D) : eqD (.tup a) (.tup b) = eqDs a b := by simp only [eqD]
@[simp] theorem eqD_lst (a b : List D) : eqD (.lst a) (.lst b) = eqDs a b := by simp only [eqD]
@[simp] theorem eqDs_nn : eqDs [] [] = true := by simp only [eqDs]
@[simp] theorem eqDs_cc (a b : D) (r s : List D) : eqDs (a :: r) (b :: s) = (eqD a b && eqDs r s) := by simp only [eqDs]
@[simp] theorem eqDs_nc (b : D) (s : List D) : eqDs [] (b :: s) = false := by simp only [eqDs]
@[simp] theorem eqDs_cn (b : D) (s : List D) : eqDs (b :: s) [] = false := by simp only [eqDs]
@[simp] theorem eqD_ii (i j : Int) : eqD (.int i) (.int j) = decide (i = j) := eqD_int i j
theorem divInt_self_iff {n d : Int} (hd : 0 < d) : ((Rat.divInt n d).num = n ∧ ((Rat.divInt n d).den : Int) = d) ↔ Int.gcd n d = 1 := by
  constructor
  · rintro ⟨h1, h2⟩
    have := (Rat.divInt n d).reduced
    rw [h1] at this
    unfold Nat.Coprime at this
    have e : (Rat.divInt n d).den = d.natAbs := by omega
    rw [e] at this
    exact this
  · intro h
    rw [Rat.num_divInt, Rat.den_divInt, if_neg (by omega), Int.sign_eq_one_of_pos hd, Int.gcd_comm d n, h]
    refine ⟨by simp, ?_⟩
    simp; omega
def oddC (g : G) (d : D) : Option D := if isW d then none else some (.int 1)
theorem comp_odd (g : G) (d : D) (st : DS) (env : Env) (h : ty1 d = true) (hl : lk (st1 (wipeE env [1]) 1 (some d)) 1 = some d) : compF g [1] (.nm 1) (.cons (.or (.not (.isin (.bor 1) [.int])) (.isin (.bor 1) [.bool])) .nil) (.int 1) env d st = .ok (oddC g d) st := by
  unfold compF
  simp only [bindT_nm, ofO_some, Res.bind_ok, evCs_cons, evCs_nil, evE_or, evE_not, evE_isin, evE_bor, hl, isin_int g d h, isin_bool g d h, Option.map_some, asB_bl]
  cases d <;> simp [tyD, oddC, isW, Res.noRaise]
theorem law_is_ratio_ok (g : G) (hq : HLow g "_law_q") (v : D) (st : DS) (h : okR v) : callB g 1 2 Pre.t_law_is_ratio [v] st = .ok (.bl (isRat v)) st := by
  obtain ⟨h1, h2⟩ := h
  cases v with
  | tup ds =>
    obtain ⟨h3, h4⟩ := h2 ds rfl
    have hc : ∀ e : Option D, mapR (compF g [1] (.nm 1) (.cons (.or (.not (.isin (.bor 1) [.int])) (.isin (.bor 1) [.bool])) .nil) (.int 1) [some (.tup ds), e]) ds st = .ok (ds.filterMap (oddC g)) st := fun e => mapR_pure fun d hd => comp_odd g d st _ (h3 d hd) (by simp)
    match ds, h3 with
    | [], _ => simp [Pre.t_law_is_ratio, env0, h1, isRat, tyD]
    | [x], _ => simp [Pre.t_law_is_ratio, env0, h1, isRat, tyD]
    | x :: y :: z :: r, _ =>
      have : ¬ ((r.length : Int) + 1 + 1 + 1 = 2) := by omega
      simp [Pre.t_law_is_ratio, env0, h1, isRat, tyD, this]
    | [x, y], h3 =>
      have ne1 := fun (a : List D) (ha : a.all (eqN 59) = true) => cmp_ne (.lst a) (.lst []) (by rw [show (60 : Nat) = 59 + 1 from rfl, eqN_lst]; exact ha) (by simp)
      by_cases hx : isW x = true
      · by_cases hy : isW y = true
        · obtain ⟨n, rfl⟩ := isW_int hx
          obtain ⟨d, rfl⟩ := isW_int hy
          have hc : ∀ e : Option D, _ := hc
          simp only [List.filterMap_cons, List.filterMap_nil, oddC, isW, if_true] at hc
          have n0 := ne1 [] rfl
          by_cases hd : 0 < d
          · have e := hq n d st (by omega) (h4 n d rfl)
            have q := cmp_eq (dR (Rat.divInt n d)) (.tup [.int n, .int d]) (by simp) (by simp)
            simp [Pre.t_law_is_ratio, env0, h1, tyD, hc, n0, isRat, hd, e, q]
            rw [Bool.eq_iff_iff]
            simpa using divInt_self_iff (n := n) hd
          · simp [Pre.t_law_is_ratio, env0, h1, tyD, hc, n0, isRat, hd]
        · have e : isRat (.tup [x, y]) = false := by cases x <;> cases y <;> first | rfl | exact absurd rfl hy
          have hy : isW y = false := by simpa using hy
          simp only [List.filterMap_cons, List.filterMap_nil, oddC, hx, hy, if_true] at hc
          have n0 := ne1 [.int 1] (by simp)
          simp [Pre.t_law_is_ratio, env0, h1, tyD, hc, n0, e]
      · have e : isRat (.tup [x, y]) = false := by cases x <;> cases y <;> first | rfl | exact absurd rfl hx
        have hx : isW x = false := by simpa using hx
        by_cases hy : isW y = true
        · simp only [List.filterMap_cons, List.filterMap_nil, oddC, hx, hy, if_true] at hc
          have n0 := ne1 [.int 1] (by simp)
          simp [Pre.t_law_is_ratio, env0, h1, tyD, hc, n0, e]
        · have hy : isW y = false := by simpa using hy
          simp only [List.filterMap_cons, List.filterMap_nil, oddC, hx, hy] at hc
          have n0 := ne1 [.int 1, .int 1] (by simp)
          simp [Pre.t_law_is_ratio, env0, h1, tyD, hc, n0, e]
  | _ => simp [Pre.t_law_is_ratio, env0, h1, isRat, tyD]
end Ev
/-! Pr5: _law_is_truth, _law_same. -/
namespace Ev
open PySem L2
@[simp] theorem eqD_bb (a b : Bool) : eqD (.bl a) (.bl b) = (a == b) := by simp only [eqD, pyI]; cases a <;> cases b <;> rfl
@[simp] theorem eqD_ss (a b : Str) : eqD (.str a) (.str b) = (a == b) := by simp only [eqD]
def HTruth (g : G) : Prop := ∀ (a b : Bool) (st : DS), g.call "_law_is_truth" [.bl a, .bl b] st = .ok (.bl (a == b)) st
theorem law_is_truth_ok (g : G) (a b : Bool) (st : DS) : callB g 2 2 Pre.t_law_is_truth [.bl a, .bl b] st = .ok (.bl (a == b)) st := by
  cases a <;> cases b <;> simp [Pre.t_law_is_truth, env0]
mutual
def nodes : D → Nat
  | .tup ds => 1 + nodesL ds
  | .lst ds => 1 + nodesL ds
  | _ => 1
def nodesL : List D → Nat
  | [] => 0
  | d :: r => nodes d + nodesL r
end
theorem nodesL_append : ∀ a b : List D, nodesL (a ++ b) = nodesL a + nodesL b
  | [], b => by simp [nodesL]
  | x :: a, b => by rw [List.cons_append, nodesL, nodesL, nodesL_append a b]; omega
theorem nodes_pos (d : D) : 1 ≤ nodes d := by cases d <;> simp [nodes]
theorem nodesL_len : ∀ a : List D, a.length ≤ nodesL a
  | [] => by simp [nodesL]
  | x :: a => by have := nodes_pos x; have := nodesL_len a; rw [List.length_cons, nodesL]; omega
theorem ty1_eqN {n : Nat} {x : D} (h : eqN n x = true) : ty1 x = true := by
  cases x <;> first | rfl | (cases n <;> simp [eqN] at h)
/-- eqN needs no more than the depth -/
theorem eqN_mono : ∀ {n m : Nat} {x : D}, n ≤ m → eqN n x = true → eqN m x = true
  | 0, m, x, _, h => by cases x <;> first | (simp [eqN] at h ⊢; done) | (simp [eqN] at h; simp [h])
  | n + 1, 0, x, l, _ => absurd l (by omega)
  | n + 1, m + 1, x, l, h => by
    cases x with
    | tup ds => rw [eqN_tup] at h ⊢; rw [List.all_eq_true] at h ⊢; exact fun d hd => eqN_mono (by omega) (h d hd)
    | lst ds => rw [eqN_lst] at h ⊢; rw [List.all_eq_true] at h ⊢; exact fun d hd => eqN_mono (by omega) (h d hd)
    | _ => first | (simp [eqN] at h ⊢; done) | (simp [eqN] at h; simp [h])
def pairs (ds : List D) : List D := ds.map fun x => .tup [x, x]
theorem zip2_self : ∀ ds : List D, zip2 ds ds = pairs ds
  | [] => rfl
  | x :: ds => by rw [zip2, zip2_self ds]; rfl
theorem pairs_eqN {n : Nat} {ds : List D} (h : ∀ d ∈ ds, eqN n d = true) : (pairs ds).all (eqN (n + 1)) = true := by
  rw [List.all_eq_true]
  intro d hd
  obtain ⟨x, hx, rfl⟩ := List.mem_map.mp hd
  simp [h x hx]
def sameC : E := .cmp .ne (.bor 2) (.lst .nil)
def sameB : Ss := match Pre.t_law_same with
  | .cons _ (.cons (.while_ _ b) _) => b
  | _ => .nil
theorem comp_pair (g : G) (env : Env) (st : DS) (x y : D) (h1 : lk (st1 (st1 (st1 (st1 env 8 none) 7 none) 7 (some x)) 8 (some y)) 7 = some x) (h2 : lk (st1 (st1 (st1 (st1 env 8 none) 7 none) 7 (some x)) 8 (some y)) 8 = some y) :
    compF g [7, 8] (.tp [7, 8]) .nil (.tup (.cons (.var 7) (.cons (.var 8) .nil))) env (.tup [x, y]) st = .ok (some (.tup [x, y])) st := by
  unfold compF
  simp only [bindT_tp, bindL_cons, bindL_nil, wipe_cons, wipe_nil, ofO_some, Res.bind_ok, evCs_nil, if_true, evE_tup, evEs_cons, evEs_nil, evE_var, h1, h2]
  rfl
/-- what stands below a value -/
def kids : D → List D
  | .tup ds => ds
  | .lst ds => ds
  | _ => []
theorem same_step (g : G) (ht : HTruth g) (A : List D) (x : D) (f d j3 j4 j5 j6 j7 j8 : Option D) (st : DS) (hA : ∀ d ∈ A, eqN 58 d = true) (hx : eqN 50 x = true) (hl : A.length + nodes x ≤ 1000000) :
    ∃ e3 e4 e6, whF g sameC sameB ([f, d, some (.lst (pairs (A ++ [x]))), j3, j4, j5, j6, j7, j8], [2]) st = .ok (.inl ([f, d, some (.lst (pairs (A ++ kids x))), e3, e4, j5, e6, j7, j8], [2])) st := by
  have hall : ∀ d ∈ A ++ [x], eqN 58 d = true := fun d hd => by
    rcases List.mem_append.mp hd with h | h
    · exact hA d h
    · rw [List.mem_singleton.mp h]; exact eqN_mono (by decide) hx
  have hne := cmp_ne (.lst (pairs (A ++ [x]))) (.lst []) (by rw [show (60 : Nat) = 59 + 1 from rfl, eqN_lst]; exact pairs_eqN hall) (by simp)
  have e0 : eqDs (pairs (A ++ [x])) [] = false := by
    unfold pairs
    cases A <;> simp
  rw [eqD_lst, e0] at hne
  have hlast : (pairs (A ++ [x])).getLast? = some (.tup [x, x]) := by unfold pairs; simp
  have hdrop : (pairs (A ++ [x])).dropLast = pairs A := by unfold pairs; simp [List.dropLast_concat]
  have hty := ty1_eqN hx
  have fz : ∀ vs : List Nat, vs.contains 2 = false → frz [2] vs = [2] := fun vs h => by
    have h : ¬ 2 ∈ vs := by simpa using h
    simp [frz, h]
  have pop : evS g (.pop (.tp [3, 4]) 2) ([f, d, some (.lst (pairs (A ++ [x]))), j3, j4, j5, j6, j7, j8], [2]) st = .ok (([f, d, some (.lst (pairs A)), some x, some x, j5, j6, j7, j8], [2]), .nx) st := by
    rw [evS_pop, fz _ (by rfl)]
    simp [asL, hlast, hdrop]
  cases x with
  | non => exact ⟨some .non, some .non, j6, by simp [whF, sameC, sameB, Pre.t_law_same, hne, pop, isNonD, kids, fz, varsE, varsEs]⟩
  | bl b => exact ⟨some (.bl b), some (.bl b), j6, by simp [whF, sameC, sameB, Pre.t_law_same, hne, pop, isNonD, kids, fz, varsE, varsEs, hty, tyD, ht b b st]⟩
  | int i => 
    have q := cmp_ne (.bl true) (.bl true) (by simp) (by simp)
    exact ⟨some (.int i), some (.int i), j6, by simp [whF, sameC, sameB, Pre.t_law_same, hne, pop, isNonD, kids, fz, varsE, varsEs, hty, tyD, q]⟩
  | str s =>
    have q := cmp_ne (.bl false) (.bl false) (by simp) (by simp)
    have hs : PyData.strOk s = true := by simpa using hx
    have q2 := cmp_ne (.str s) (.str s) (by simp [hs]) (by simp [hs])
    exact ⟨some (.str s), some (.str s), j6, by simp [whF, sameC, sameB, Pre.t_law_same, hne, pop, isNonD, kids, fz, varsE, varsEs, hty, tyD, q, q2]⟩
  | tup ds =>
    have hc : ∀ e : Env, e = [f, d, some (.lst (pairs A)), some (.tup ds), some (.tup ds), j5, some (.lst [.bl true, .bl false]), j7, j8] → mapR (compF g [7, 8] (.tp [7, 8]) .nil (.tup (.cons (.var 7) (.cons (.var 8) .nil))) e) (pairs ds) st = .ok (pairs ds) st := fun e he => by
      subst he
      refine (mapR_map (h := id) fun y hy => ?_).trans (by rw [List.map_id])
      obtain ⟨z, _, rfl⟩ := List.mem_map.mp hy
      exact comp_pair g _ st z z rfl rfl
    have q : isinD (.bl true) (.lst [.bl true, .bl false]) = some true := by simp [isinD]
    have hln : (pairs A).length + (pairs ds).length ≤ 1000000 := by
      unfold pairs
      rw [List.length_map, List.length_map]
      have := nodesL_len ds
      rw [nodes] at hl
      omega
    have ext : evS g (.ext 2 (.comp [7, 8] (.tp [7, 8]) (.zip (.var 3) (.var 4)) .nil (.tup (.cons (.var 7) (.cons (.var 8) .nil))))) ([f, d, some (.lst (pairs A)), some (.tup ds), some (.tup ds), j5, some (.lst [.bl true, .bl false]), j7, j8], [2]) st = .ok (([f, d, some (.lst (pairs (A ++ ds))), some (.tup ds), some (.tup ds), j5, some (.lst [.bl true, .bl false]), j7, j8], [2]), .nx) st := by
      rw [evS_ext, fz _ (by rfl)]
      simp [asL, zip2_self, hc _ rfl, hln]
      unfold pairs
      simp
    exact ⟨some (.tup ds), some (.tup ds), some (.lst [.bl true, .bl false]), by
      simp [whF, sameC, sameB, Pre.t_law_same, hne, pop, isNonD, kids, fz, varsE, varsEs, hty, tyD, q, ext]⟩
  | lst ds =>
    have hc : ∀ e : Env, e = [f, d, some (.lst (pairs A)), some (.lst ds), some (.lst ds), j5, some (.lst [.bl false, .bl true]), j7, j8] → mapR (compF g [7, 8] (.tp [7, 8]) .nil (.tup (.cons (.var 7) (.cons (.var 8) .nil))) e) (pairs ds) st = .ok (pairs ds) st := fun e he => by
      subst he
      refine (mapR_map (h := id) fun y hy => ?_).trans (by rw [List.map_id])
      obtain ⟨z, _, rfl⟩ := List.mem_map.mp hy
      exact comp_pair g _ st z z rfl rfl
    have q : isinD (.bl true) (.lst [.bl false, .bl true]) = some true := by simp [isinD]
    have hln : (pairs A).length + (pairs ds).length ≤ 1000000 := by
      unfold pairs
      rw [List.length_map, List.length_map]
      have := nodesL_len ds
      rw [nodes] at hl
      omega
    have ext : evS g (.ext 2 (.comp [7, 8] (.tp [7, 8]) (.zip (.var 3) (.var 4)) .nil (.tup (.cons (.var 7) (.cons (.var 8) .nil))))) ([f, d, some (.lst (pairs A)), some (.lst ds), some (.lst ds), j5, some (.lst [.bl false, .bl true]), j7, j8], [2]) st = .ok (([f, d, some (.lst (pairs (A ++ ds))), some (.lst ds), some (.lst ds), j5, some (.lst [.bl false, .bl true]), j7, j8], [2]), .nx) st := by
      rw [evS_ext, fz _ (by rfl)]
      simp [asL, zip2_self, hc _ rfl, hln]
      unfold pairs
      simp
    exact ⟨some (.lst ds), some (.lst ds), some (.lst [.bl false, .bl true]), by
      simp [whF, sameC, sameB, Pre.t_law_same, hne, pop, isNonD, kids, fz, varsE, varsEs, hty, tyD, q, ext]⟩
  | _ => simp [eqN] at hx
theorem kids_nodes (x : D) : nodesL (kids x) + 1 = nodes x ∨ (kids x = [] ∧ nodes x = 1) := by
  cases x <;> first | (right; exact ⟨rfl, by simp [nodes]⟩) | (left; simp [kids, nodes]; omega)
theorem kids_eqN {n : Nat} {x : D} (h : eqN (n + 1) x = true) : ∀ d ∈ kids x, eqN n d = true := by
  cases x with
  | tup ds => rw [eqN_tup, List.all_eq_true] at h; exact h
  | lst ds => rw [eqN_lst, List.all_eq_true] at h; exact h
  | _ => intro d hd; simp [kids] at hd
theorem same_loop (g : G) (ht : HTruth g) (st : DS) (f d : Option D) : ∀ (n : Nat) (ds : List D) (j3 j4 j5 j6 j7 j8 : Option D), nodesL ds = n → n ≤ 1000000 → (∀ x ∈ ds, eqN 50 x = true) →
    ∃ env, loopR (whF g sameC sameB) ([f, d, some (.lst (pairs ds)), j3, j4, j5, j6, j7, j8], [2]) st = .ok ((env, [2]), .nx) st := by
  intro n
  induction n using Nat.strongRecOn with
  | ind n ih =>
    intro ds j3 j4 j5 j6 j7 j8 hn hle hx
    rw [loopR_unroll]
    rcases List.eq_nil_or_concat ds with e | ⟨A, x, e⟩
    · subst e
      have hne := cmp_ne (.lst []) (.lst []) (by simp) (by simp)
      refine ⟨[f, d, some (.lst (pairs [])), j3, j4, j5, j6, j7, j8], ?_⟩
      have : whF g sameC sameB ([f, d, some (.lst (pairs [])), j3, j4, j5, j6, j7, j8], [2]) st = .ok (.inr (([f, d, some (.lst (pairs [])), j3, j4, j5, j6, j7, j8], [2]), .nx)) st := by
        simp [whF, sameC, hne, pairs, frz, varsE, varsEs]
      rw [this]
      rfl
    · rw [List.concat_eq_append] at e
      subst e
      rw [nodesL_append] at hn
      have hnx : nodesL [x] = nodes x := by simp [nodesL]
      have hA : ∀ d ∈ A, eqN 50 d = true := fun d hd => hx d (List.mem_append_left _ hd)
      have hxx : eqN 50 x = true := hx x (List.mem_append_right _ (List.mem_singleton.mpr rfl))
      have hal := nodesL_len A
      obtain ⟨e3, e4, e6, hs⟩ := same_step g ht A x f d j3 j4 j5 j6 j7 j8 st (fun d hd => eqN_mono (by decide) (hA d hd)) hxx (by omega)
      rw [hs]
      have hlt : nodesL (A ++ kids x) < n := by
        rw [nodesL_append]
        rcases kids_nodes x with h | ⟨h1, h2⟩
        · omega
        · rw [h1]; simp [nodesL]; omega
      exact ih _ hlt (A ++ kids x) e3 e4 j5 e6 j7 j8 rfl (by omega) fun y hy => by
        rcases List.mem_append.mp hy with h | h
        · exact hA y h
        · exact eqN_mono (by decide) (kids_eqN (n := 49) hxx y h)
theorem law_same_ok (g : G) (ht : HTruth g) (x : D) (st : DS) (h : eqN 50 x = true) (hl : nodes x ≤ 1000000) : callB g 2 9 Pre.t_law_same [x, x] st = .ok (.bl true) st := by
  obtain ⟨env, e⟩ := same_loop g ht st (some x) (some x) (nodes x) [x] none none none none none none (by simp [nodesL]) hl (fun y hy => by rw [List.mem_singleton.mp hy]; exact h)
  have hs : Pre.t_law_same = .cons (.asg (.nm 2) true (.lst (.cons (.tup (.cons (.var 0) (.cons (.var 1) .nil))) .nil))) (.cons (.while_ sameC sameB) (.cons (.ret (.bl true)) .nil)) := rfl
  rw [hs]
  have hp : pairs [x] = [.tup [x, x]] := rfl
  rw [hp] at e
  have hc : ∀ d : D, claim [] 2 true (.lst [d]) = [2] := fun d => rfl
  simp [env0, hc, e]
end Ev
/-! Pr6: the draws. -/
namespace Ev
open PySem L2
/-- at most n numbers were blended so far -/
def DOk (n : Nat) (st : DS) : Prop := 0 ≤ st.turn ∧ st.turn ≤ n
theorem DOk.mono {m n : Nat} {st : DS} (h : DOk m st) (l : m ≤ n) : DOk n st := ⟨h.1, by have := h.2; omega⟩
@[simp] theorem isDrw_drw : isDrw (some .drw) = true := rfl
@[simp] theorem drF_0 (st : DS) : drF 0 st = some (.int st.rest) := rfl
@[simp] theorem drF_1 (st : DS) : drF 1 st = some (.int st.turn) := rfl
@[simp] theorem drF_2 (st : DS) : drF 2 st = some (.lst (st.cells.map .int)) := rfl
@[simp] theorem drPut_0 (k : Int) (st : DS) : drPutS 0 k st = some { st with rest := k } := rfl
@[simp] theorem drPut_1 (k : Int) (st : DS) : drPutS 1 k st = some { st with turn := k } := rfl
theorem pw5 {x : Int} (h : x.natAbs < 2 ^ 64) : binop .pow (.int x) (.int 5) = some (.int (x ^ 5)) := by
  have h2 : x.natAbs < 18446744073709551616 := h
  show (if _ then _ else _) = _
  rw [if_pos (by simp [h2])]; rfl
def prms : List Int := [2147483579, 2147483629, 2147483563]
def blB : Ss := .cons (.asg (.nm 4) false (.bin .mod (.b1 .int (.bin .add (.bin .add (.bin .mul (.bor 4) (.int 69621)) (.bor 5)) (.bor 1))) (.bor 3))) .nil
/-- the cells are mixed -/
theorem blend_cells (g : G) (x f : Option D) (st : DS) (t p : Int) (hp : 0 < p) (hp2 : p < 2 ^ 31) : ∀ (cs : List Int) (b : Int) (j : Option D), 0 ≤ b → b < 2 ^ 60 → ∃ (b' : Int) (j' : Option D), 0 ≤ b' ∧ b' < 2 ^ 60 ∧
    foldF (forF g (.nm 5) blB) (cs.map .int) ([x, some (.int t), f, some (.int p), some (.int b), j], []) st = .ok (([x, some (.int t), f, some (.int p), some (.int b'), j'], []), .nx) st
  | [], b, j, h1, h2 => ⟨b, j, h1, h2, rfl⟩
  | c :: cs, b, j, h1, h2 => by
    have m0 : 0 ≤ (b * 69621 + c + t) % p := Int.emod_nonneg _ (by omega)
    have m1 : (b * 69621 + c + t) % p < p := Int.emod_lt_of_pos _ hp
    obtain ⟨b', j', e1, e2, e3⟩ := blend_cells g x f st t p hp hp2 cs ((b * 69621 + c + t) % p) (some (.int c)) m0 (by omega)
    refine ⟨b', j', e1, e2, ?_⟩
    have hm := bin_mul b 69621 (size_ok (a := 60) (b := 17) (by omega) (by decide) (by decide))
    have one : forF g (.nm 5) blB (.int c) ([x, some (.int t), f, some (.int p), some (.int b), j], []) st = .ok (([x, some (.int t), f, some (.int p), some (.int ((b * 69621 + c + t) % p)), some (.int c)], []), .nx) st := by
      simp [forF, blB, hm, bin_mod _ _ hp]
    rw [List.map_cons, foldF_cons, one]
    exact e3
def blB2 : Ss := .cons (.asg (.nm 4) false (.bin .add (.bin .mul (.int 48271) (.bor 1)) (.bin .fdiv (.bor 3) (.int 53)))) (.cons (.for_ (.nm 5) (.e (.dr 0 2)) blB) (.cons (.asg (.nm 2) false (.bin .add (.bin .mul (.bor 2) (.int 2147483647)) (.bin .mod (.b1 .int (.bin .pow (.bor 4) (.int 5))) (.bor 3)))) .nil))
theorem blend_prime (g : G) (st : DS) (t p f : Int) (m : Nat) (hm0 : m ≤ 2000) (j3 j4 j5 : Option D) (ht : 0 ≤ t) (ht2 : t ≤ 2 ^ 41) (hp : 0 < p) (hp2 : p < 2 ^ 31) (hf : f.natAbs < 2 ^ m) : ∃ (f' : Int) (k4 k5 : Option D), f'.natAbs < 2 ^ (m + 32) ∧
    forF g (.nm 3) blB2 (.int p) ([some .drw, some (.int t), some (.int f), j3, j4, j5], []) st = .ok (([some .drw, some (.int t), some (.int f'), some (.int p), k4, k5], []), .nx) st := by
  have hm := bin_mul 48271 t (size_ok (a := 16) (b := 42) (by decide) (by omega) (by decide))
  have hd := bin_fdiv p 53 (by decide) (by decide)
  have hd0 : 0 ≤ p.fdiv 53 := by rw [Int.fdiv_eq_ediv_of_nonneg _ (by decide)]; omega
  have hd1 : p.fdiv 53 < 2 ^ 31 := by rw [Int.fdiv_eq_ediv_of_nonneg _ (by decide)]; omega
  obtain ⟨b, j', b1, b2, e⟩ := blend_cells g (some .drw) (some (.int f)) st t p hp hp2 st.cells (48271 * t + p.fdiv 53) j5 (by omega) (by omega)
  have hq := pw5 (x := b) (by omega)
  have hm2 := bin_mul f 2147483647 (size_ok (a := m) (b := 31) hf (by decide) (by omega))
  have hr := bin_mod (b ^ 5) p hp
  have r0 : 0 ≤ b ^ 5 % p := Int.emod_nonneg _ (by omega)
  have r1 : b ^ 5 % p < p := Int.emod_lt_of_pos _ hp
  refine ⟨f * 2147483647 + b ^ 5 % p, some (.int b), j', ?_, ?_⟩
  · have h1 : (f * 2147483647).natAbs < 2 ^ (m + 31) := mul_lt hf (by decide)
    have h2 : (b ^ 5 % p).natAbs < 2 ^ (m + 31) := Nat.lt_of_lt_of_le (show (b ^ 5 % p).natAbs < 2 ^ 31 by omega) (Nat.pow_le_pow_right (by decide) (by omega))
    exact add_lt h1 h2
  · simp [forF, blB2, hm, hd, e, hq, hm2, hr]
theorem law_blended_ok (g : G) (n : Nat) (st : DS) (h : DOk n st) (hn : n ≤ 2 ^ 40) : Ok (callB g 1 6 Pre.t_law_blended [.drw] st) fun d st' => (∃ k, d = .int k) ∧ DOk (n + 1) st' := by
  obtain ⟨h1, h2⟩ := h
  have t1 : 0 ≤ st.turn + 1 := by omega
  have t2 : st.turn + 1 ≤ 2 ^ 41 := by omega
  obtain ⟨f1, a4, a5, l1, e1⟩ := blend_prime g { st with turn := st.turn + 1 } (st.turn + 1) 2147483579 0 1 (by decide) none none none t1 t2 (by decide) (by decide) (by decide)
  obtain ⟨f2, b4, b5, l2, e2⟩ := blend_prime g { st with turn := st.turn + 1 } (st.turn + 1) 2147483629 f1 33 (by decide) (some (.int 2147483579)) a4 a5 t1 t2 (by decide) (by decide) l1
  obtain ⟨f3, c4, c5, l3, e3⟩ := blend_prime g { st with turn := st.turn + 1 } (st.turn + 1) 2147483563 f2 65 (by decide) (some (.int 2147483629)) b4 b5 t1 t2 (by decide) (by decide) l2
  have ht : Pre.t_law_blended = .cons (.par 1 2 (.bin .add (.dr 0 1) (.int 1)) (.int 0)) (.cons (.drSet 0 1 (.var 1)) (.cons (.for_ (.nm 3) (.e (.lst (.cons (.int 2147483579) (.cons (.int 2147483629) (.cons (.int 2147483563) .nil))))) blB2) (.cons (.ret (.var 2)) .nil))) := rfl
  refine ⟨.int f3, { st with turn := st.turn + 1 }, ?_, ⟨f3, rfl⟩, t1, by show st.turn + 1 ≤ _; omega⟩
  rw [ht]
  simp [env0, e1, e2, e3]
def HBlend (g : G) : Prop := ∀ (n : Nat) (st : DS), DOk n st → n ≤ 2 ^ 40 → Ok (g.call "_law_blended" [.drw] st) fun d st' => (∃ k, d = .int k) ∧ DOk (n + 1) st'
theorem law_draw_ok (g : G) (hb : HBlend g) (n : Nat) (room : Int) (st : DS) (h : DOk n st) (hn : n ≤ 2 ^ 40) (hr : 0 < room) (hr2 : room.natAbs < 2 ^ 8999) : Ok (callB g 2 3 Pre.t_law_draw [.drw, .int room] st) fun d st' => (∃ k, d = .int k ∧ 0 ≤ k ∧ k < room) ∧ DOk (n + 1) st' := by
  have hm := fun x => bin_mod x room hr
  have hd := fun x => bin_fdiv x room (by omega) (log2_lt (k := 9000) (by decide) (Nat.lt_of_lt_of_le hr2 (Nat.pow_le_pow_right (by decide) (by decide))))
  have key : ∀ (x : Int), 0 ≤ x % room ∧ x % room < room := fun x => ⟨Int.emod_nonneg _ (by omega), Int.emod_lt_of_pos _ hr⟩
  by_cases h0 : st.rest = 0
  · cases hg : st.great with
    | nil =>
      obtain ⟨d, st1, e, ⟨k, rfl⟩, h1⟩ := hb n st h hn
      exact ⟨.int (k % room), { st1 with rest := k.fdiv room }, by simp [Pre.t_law_draw, env0, h0, hg, e, hm, hd], ⟨_, rfl, key k⟩, h1⟩
    | cons x xs => exact ⟨.int (x % room), { st with great := xs, rest := x.fdiv room }, by simp [Pre.t_law_draw, env0, h0, hg, popG, hm, hd], ⟨_, rfl, key x⟩, h.mono (Nat.le_succ n)⟩
  · exact ⟨.int (st.rest % room), { st with rest := st.rest.fdiv room }, by simp [Pre.t_law_draw, env0, h0, hm, hd], ⟨_, rfl, key _⟩, h.mono (Nat.le_succ n)⟩
def HDraw (g : G) : Prop := ∀ (n : Nat) (room : Int) (st : DS), DOk n st → n ≤ 2 ^ 40 → 0 < room → room.natAbs < 2 ^ 8999 → Ok (g.call "_law_draw" [.drw, .int room] st) fun d st' => (∃ k, d = .int k ∧ 0 ≤ k ∧ k < room) ∧ DOk (n + 1) st'
theorem ix_at {ds : List D} {k : Nat} {x : D} (h : ds[k]? = some x) : ixop (.lst ds) (.int k) = some x := by
  have hl : k < ds.length := (List.getElem?_eq_some_iff.mp h).1
  show atI ds k = some x
  unfold atI ixN
  rw [if_pos (by omega), if_pos (by omega)]
  simpa using h
theorem ix_atT {ds : List D} {k : Nat} {x : D} (h : ds[k]? = some x) : ixop (.tup ds) (.int k) = some x := ix_at h
theorem law_pick_ok (g : G) (hd : HDraw g) (n : Nat) (ds : List D) (st : DS) (h : DOk n st) (hn : n ≤ 2 ^ 40) (h0 : ds ≠ []) (hl : ds.length ≤ 1000000) : Ok (callB g 2 2 Pre.t_law_pick [.drw, .lst ds] st) fun d st' => d ∈ ds ∧ DOk (n + 1) st' := by
  have hp : 0 < ds.length := List.length_pos_iff.mpr h0
  obtain ⟨d, st1, e, ⟨k, rfl, k0, k1⟩, h1⟩ := hd n ds.length st h hn (by omega) (Nat.lt_of_lt_of_le (show ((ds.length : Nat) : Int).natAbs < 2 ^ 30 by omega) (Nat.pow_le_pow_right (by decide) (by decide)))
  have kl : k.toNat < ds.length := by omega
  have ek : ((k.toNat : Nat) : Int) = k := by omega
  have ex := ix_at (ds := ds) (k := k.toNat) (List.getElem?_eq_getElem kl)
  rw [ek] at ex
  exact ⟨ds[k.toNat], st1, by simp [Pre.t_law_pick, env0, e, ex], List.getElem_mem kl, h1⟩
def HPick (g : G) : Prop := ∀ (n : Nat) (ds : List D) (st : DS), DOk n st → n ≤ 2 ^ 40 → ds ≠ [] → ds.length ≤ 1000000 → Ok (g.call "_law_pick" [.drw, .lst ds] st) fun d st' => d ∈ ds ∧ DOk (n + 1) st'
end Ev
/-! Pr7: ratio, is_below, shares, mean. -/
namespace Ev
open PySem L2
def HRat (g : G) (f : Str) : Prop := ∀ (v : D) (st : DS), okR v → g.call f [v] st = .ok (.bl (isRat v)) st
def HCh (g : G) (f : Str) : Prop := ∀ (v : D) (st : DS), okR v → g.call f [v] st = .ok (.bl (isCh v)) st
theorem isRat_shape {v : D} (h : isRat v = true) : ∃ n d, v = .tup [.int n, .int d] := by
  unfold isRat at h
  split at h
  · exact ⟨_, _, rfl⟩
  · cases h
theorem isCh_f {v : D} (h : isRat v = false) : isCh v = false := by
  unfold isCh
  split
  · rw [h]; rfl
  · rfl
theorem is_chance_ok (g : G) (hr : HRat g "is_ratio") (v : D) (st : DS) (h : okR v) : callB g 1 1 Pre.t_is_chance [v] st = .ok (.bl (isCh v)) st := by
  by_cases hi : isRat v = true
  · obtain ⟨n, d, rfl⟩ := isRat_shape hi
    by_cases hn : 0 ≤ n
    · simp [Pre.t_is_chance, env0, hr _ st h, hi, isCh, hn]
    · simp [Pre.t_is_chance, env0, hr _ st h, hi, isCh, hn]
  · have hi : isRat v = false := by simpa using hi
    simp [Pre.t_is_chance, env0, hr _ st h, hi, isCh_f hi]
theorem isRat_dR (r : Rat) : isRat (dR r) = true := by
  have h1 : (0 : Int) < (r.den : Int) := by have := r.den_nz; omega
  have h2 : Int.gcd r.num (r.den : Int) = 1 := r.reduced
  show (decide (0 < (r.den : Int)) && decide (Int.gcd r.num (r.den : Int) = 1)) = true
  rw [decide_eq_true h1, decide_eq_true h2]; rfl
theorem isCh_dR (r : Rat) : isCh (dR r) = decide (0 ≤ r ∧ r ≤ 1) := by
  show (isRat (dR r) && (decide (0 ≤ r.num) && decide (r.num ≤ (r.den : Int)))) = _
  rw [isRat_dR, Bool.true_and, Bool.eq_iff_iff]
  have e1 : (0 ≤ r.num) ↔ 0 ≤ r := Rat.num_nonneg
  have e2 : (r.num ≤ (r.den : Int)) ↔ r ≤ 1 := by
    rw [Rat.le_iff, show (1 : Rat).num = 1 from rfl, show (1 : Rat).den = 1 from rfl]
    simp
  simp [e1, e2]
theorem okR_dR {r : Rat} (h : Sm 8999 r) : okR (dR r) := ⟨rfl, fun ds e => by
  cases e
  refine ⟨fun d hd => ?_, fun n d e => ?_⟩
  · simp only [List.mem_cons, List.not_mem_nil, or_false] at hd
    rcases hd with rfl | rfl <;> rfl
  · cases e; simpa using h.2⟩
theorem okR_tt {n d : Int} (h : d.natAbs < 2 ^ 8999) : okR (.tup [.int n, .int d]) := ⟨rfl, fun ds e => by
  cases e
  refine ⟨fun d hd => ?_, fun n d e => ?_⟩
  · simp only [List.mem_cons, List.not_mem_nil, or_false] at hd
    rcases hd with rfl | rfl <;> rfl
  · cases e; exact h⟩
/-! ### ratio, is_below -/
theorem ratio_ok {g : G} {n d : Int} {st : DS} (hw : HWhole g) (hl : HLow g "lowest") (hd : d ≠ 0) (h : d.natAbs < 2 ^ 8999) : callB g 2 2 Pre.t_ratio [.int n, .int d] st = .ok (dR (Rat.divInt n d)) st := by
  simp [Pre.t_ratio, env0, hw (.int n) st rfl, hw (.int d) st rfl, isW, hd, hl n d st hd h]
theorem ratio_n {g : G} {x d : D} {st : DS} (hw : HWhole g) (hx : ty1 x = true) (h : isW x = false) : callB g 2 2 Pre.t_ratio [x, d] st = .raise "BadNumber" [.str "n"] st := by
  simp [Pre.t_ratio, env0, hw x st hx, h]
theorem ratio_d {g : G} {n : Int} {x : D} {st : DS} (hw : HWhole g) (hx : ty1 x = true) (h : isW x = false ∨ x = .int 0) : callB g 2 2 Pre.t_ratio [.int n, x] st = .raise "BadNumber" [.str "d"] st := by
  have hn : isW (.int n) = true := rfl
  rcases h with h | h
  · simp [Pre.t_ratio, env0, hw x st hx, h, hw (.int n) st rfl, hn]
  · subst h
    simp [Pre.t_ratio, env0, hw (.int 0) st rfl, hw (.int n) st rfl, isW]
theorem is_below_ok {g : G} {r s : Rat} {st : DS} (hr : HRat g "is_ratio") (hl : HLess g "is_less") (h1 : Sm 4000 r) (h2 : Sm 4000 s) : callB g 2 2 Pre.t_is_below [dR r, dR s] st = .ok (.bl (decide (r < s))) st := by
  simp [Pre.t_is_below, env0, hr _ st (okR_dR (h1.mono (by decide))), hr _ st (okR_dR (h2.mono (by decide))), isRat_dR, hl r s st h1 h2]
theorem is_below_bad {g : G} {x y : D} {st : DS} (hr : HRat g "is_ratio") (h1 : okR x) (h2 : okR y) (h : isRat x = false ∨ isRat y = false) : callB g 2 2 Pre.t_is_below [x, y] st = .raise "BadRatio" [] st := by
  by_cases hx : isRat x = true
  · have hy := h.resolve_left (by rw [hx]; decide)
    simp [Pre.t_is_below, env0, hr _ st h1, hr _ st h2, hx, hy]
  · have hx : isRat x = false := by simpa using hx
    simp [Pre.t_is_below, env0, hr _ st h1, hx]
/-! ### shares -/
def chs (l : List Rat) : Bool := l.all fun r => decide (0 ≤ r ∧ r ≤ 1)
def shB (l : List Rat) : Bool := chs l && decide (rsum l = 1)
theorem all_call {g : G} {f : Str} {p : D → Bool} {l : List D} {st : DS} {env : Env} {i : Nat} (hi : ∀ d, lk (st1 (wipeE env [i]) i (some d)) i = some d) (h : ∀ d ∈ l, g.call f [d] st = .ok (.bl (p d)) st) :
    mapR (compF g [i] (.nm i) .nil (.call f (.cons (.var i) .nil)) env) l st = .ok (l.map fun d => .bl (p d)) st := mapR_map fun d hd => compF_call (p := fun d => .bl (p d)) (hi d) (h d hd)
theorem eq_dR (r s : Rat) : cmpop .eq (dR r) (dR s) = some (decide (r = s)) := by
  rw [cmp_eq _ _ (by simp) (by simp)]
  congr 1
  rw [eqD_tup, Bool.eq_iff_iff]
  simp only [eqDs_cc, eqD_ii, eqDs_nn, Bool.and_true, Bool.and_eq_true, decide_eq_true_eq]
  constructor
  · rintro ⟨h1, h2⟩; exact Rat.ext h1 (by omega)
  · rintro rfl; exact ⟨rfl, rfl⟩
theorem ne_dR (r s : Rat) : cmpop .ne (dR r) (dR s) = some (!decide (r = s)) := by
  have h := eq_dR r s
  rw [cmp_eq _ _ (by simp) (by simp)] at h
  rw [cmp_ne _ _ (by simp) (by simp), Option.some.inj h]
/-- the shapes of a list of ratios -/
inductive RL : D → List Rat → Prop
  | l (s : List Rat) : RL (.lst (s.map dR)) s
  | t (s : List Rat) : RL (.tup (s.map dR)) s
theorem are_shares_ok {g : G} {k : Nat} {s : List Rat} {v : D} {m : Int} {st : DS} (hv : RL v s) (hc : HCh g "is_chance") (ht : HSum g "total") (ho : g.glob "ONE" = some (dR 1)) (hs : ∀ r ∈ s, Sm k r) (hk : 1 + (k + 1) * s.length ≤ 4000) :
    callB g 2 3 Pre.t_are_shares [v, .int m] st = .ok (.bl (decide ((s.length : Int) = m) && shB s)) st := by
  have h4 := item_sm hs hk
  have hcall : ∀ d ∈ s.map dR, g.call "is_chance" [d] st = .ok (.bl (isCh d)) st := fun d hd => by
    obtain ⟨r, hr, rfl⟩ := List.mem_map.mp hd
    exact hc _ st (okR_dR ((h4 r hr).mono (by decide)))
  have hb : b1op .all (.lst ((s.map dR).map fun d => .bl (isCh d))) = some (.bl (chs s)) := by
    rw [b1_all, List.all_map]
    congr 2
    unfold chs
    congr 1; funext r
    exact isCh_dR r
  obtain ⟨t1, t2⟩ := ht k s st hs hk
  by_cases hm : (s.length : Int) = m
  · cases hch : chs s with
    | false =>
      cases hv with
      | l =>
        have e := all_call (p := isCh) (env := [some (.lst (s.map dR)), some (.int m), none]) (i := 2) (fun d => by simp) hcall
        simp only [List.map_map] at e hb
        simp [Pre.t_are_shares, env0, tyD, hm, e, hb, hch, shB]
      | t =>
        have e := all_call (p := isCh) (env := [some (.tup (s.map dR)), some (.int m), none]) (i := 2) (fun d => by simp) hcall
        simp only [List.map_map] at e hb
        simp [Pre.t_are_shares, env0, tyD, hm, e, hb, hch, shB]
    | true =>
      cases hv with
      | l =>
        have e := all_call (p := isCh) (env := [some (.lst (s.map dR)), some (.int m), none]) (i := 2) (fun d => by simp) hcall
        simp only [List.map_map] at e hb
        simp [Pre.t_are_shares, env0, tyD, hm, e, hb, hch, shB, t1, ho, eq_dR]
      | t =>
        have e := all_call (p := isCh) (env := [some (.tup (s.map dR)), some (.int m), none]) (i := 2) (fun d => by simp) hcall
        simp only [List.map_map] at e hb
        simp [Pre.t_are_shares, env0, tyD, hm, e, hb, hch, shB, t2, ho, eq_dR]
  · cases hv with
    | l => simp [Pre.t_are_shares, env0, tyD, hm]
    | t => simp [Pre.t_are_shares, env0, tyD, hm]
theorem are_shares_no {g : G} {v x : D} {st : DS} (h1 : ty1 v = true) (h2 : tyD v .list = false) (h3 : tyD v .tuple = false) : callB g 2 3 Pre.t_are_shares [v, x] st = .ok (.bl false) st := by
  simp [Pre.t_are_shares, env0, h1, h2, h3]
end Ev
/-! Pr8: need_shares, mean. -/
namespace Ev
open PySem L2
/-- what are_shares says -/
inductive AreV : D → D → Bool → Prop
  | rl {k : Nat} {s : List Rat} {v : D} {m : Int} : RL v s → (∀ r ∈ s, Sm k r) → 1 + (k + 1) * s.length ≤ 4000 → AreV v (.int m) (decide ((s.length : Int) = m) && shB s)
  | no {v x : D} : ty1 v = true → tyD v .list = false → tyD v .tuple = false → AreV v x false
def HAre (g : G) : Prop := ∀ (v x : D) (b : Bool) (st : DS), AreV v x b → g.call "are_shares" [v, x] st = .ok (.bl b) st
theorem need_ok {g : G} {v x : D} {st : DS} (h : g.call "are_shares" [v, x] st = .ok (.bl true) st) : callB g 2 2 Pre.t_need_shares [v, x] st = .ok .non st := by
  simp [Pre.t_need_shares, env0, h]
theorem need_no {g : G} {v x : D} {st : DS} (h : g.call "are_shares" [v, x] st = .ok (.bl false) st) : callB g 2 2 Pre.t_need_shares [v, x] st = .raise "BadShares" [] st := by
  simp [Pre.t_need_shares, env0, h]
def zipR (s l : List Rat) : List Rat := List.zipWith (· * ·) s l
theorem zip2_dR : ∀ s l : List Rat, zip2 (s.map dR) (l.map dR) = (s.zip l).map fun p => .tup [dR p.1, dR p.2]
  | [], _ => by simp [zip2]
  | _ :: _, [] => by simp [zip2]
  | a :: s, b :: l => by
    rw [List.map_cons, List.map_cons, zip2, zip2_dR s l]; rfl
theorem zipR_map : ∀ s l : List Rat, ((s.zip l).map fun p => dR (p.1 * p.2)) = (zipR s l).map dR
  | [], _ => by simp [zipR]
  | _ :: _, [] => by simp [zipR]
  | a :: s, b :: l => by
    have ih := zipR_map s l
    show dR (a * b) :: ((s.zip l).map fun p => dR (p.1 * p.2)) = dR (a * b) :: (zipR s l).map dR
    rw [ih]
theorem zipR_sm {j k : Nat} : ∀ {s l : List Rat}, (∀ r ∈ s, Sm j r) → (∀ r ∈ l, Sm k r) → ∀ r ∈ zipR s l, Sm (j + k) r
  | [], _, _, _, r, h => by simp [zipR] at h
  | _ :: _, [], _, _, r, h => by simp [zipR] at h
  | a :: s, b :: l, h1, h2, r, h => by
    have h : r ∈ (a * b) :: zipR s l := h
    rcases List.mem_cons.mp h with e | h
    · rw [e]; exact (h1 a List.mem_cons_self).mul (h2 b List.mem_cons_self)
    · exact zipR_sm (fun r hr => h1 r (List.mem_cons_of_mem _ hr)) (fun r hr => h2 r (List.mem_cons_of_mem _ hr)) r h
theorem comp_times {g : G} {f : Str} (ht : HBin g f (· * ·)) {i j : Nat} {r s : Rat} {st : DS} {env : Env} (hr : Sm 4000 r) (hs : Sm 4000 s)
    (h1 : lk (st1 (st1 (st1 (st1 env j none) i none) i (some (dR r))) j (some (dR s))) i = some (dR r)) (h2 : lk (st1 (st1 (st1 (st1 env j none) i none) i (some (dR r))) j (some (dR s))) j = some (dR s)) :
    compF g [i, j] (.tp [i, j]) .nil (.call f (.cons (.var i) (.cons (.var j) .nil))) env (.tup [dR r, dR s]) st = .ok (some (dR (r * s))) st := by
  unfold compF
  simp only [bindT_tp, bindL_cons, bindL_nil, wipe_cons, wipe_nil, ofO_some, Res.bind_ok, evCs_nil, if_true, evE_call, evEs_cons, evEs_nil, evE_var, h1, h2, ht r s st hr hs]
  rfl
/-- lists of the same kind -/
inductive RL2 : D → D → List Rat → List Rat → Prop
  | l (s l : List Rat) : RL2 (.lst (s.map dR)) (.lst (l.map dR)) s l
  | t (s l : List Rat) : RL2 (.tup (s.map dR)) (.tup (l.map dR)) s l
theorem mean_of_ok {g : G} {j k : Nat} {s l : List Rat} {u v : D} {st : DS} (hv : RL2 u v s l) (ht : HBin g "times" (· * ·)) (hsum : HSum g "total") (h1 : ∀ r ∈ s, Sm j r) (h2 : ∀ r ∈ l, Sm k r) (hl : s.length = l.length) (hj : j ≤ 4000) (hk : k ≤ 4000) (hz : 1 + (j + k + 1) * s.length ≤ 4000) :
    callB g 2 4 Pre.t_mean_of [v, u] st = .ok (dR (rsum (zipR s l))) st := by
  have e : ∀ env : Env, (∀ r t : Rat, lk (st1 (st1 (st1 (st1 env 3 none) 2 none) 2 (some (dR r))) 3 (some (dR t))) 2 = some (dR r) ∧ lk (st1 (st1 (st1 (st1 env 3 none) 2 none) 2 (some (dR r))) 3 (some (dR t))) 3 = some (dR t)) →
      mapR (compF g [2, 3] (.tp [2, 3]) .nil (.call "times" (.cons (.var 2) (.cons (.var 3) .nil))) env) (zip2 (s.map dR) (l.map dR)) st = .ok ((zipR s l).map dR) st := fun env he => by
    rw [zip2_dR, ← zipR_map]
    have := mapR_map (F := compF g [2, 3] (.tp [2, 3]) .nil (.call "times" (.cons (.var 2) (.cons (.var 3) .nil))) env) (h := fun d => match d with | .tup [.tup [.int a, .int b], .tup [.int c, .int d]] => dR (Rat.divInt a b * Rat.divInt c d) | d => d) (st := st) (ds := (s.zip l).map fun p => .tup [dR p.1, dR p.2]) (fun d hd => by
      obtain ⟨⟨r, t⟩, hp, rfl⟩ := List.mem_map.mp hd
      have hr := (h1 r (List.of_mem_zip hp).1).mono hj
      have ht' := (h2 t (List.of_mem_zip hp).2).mono hk
      rw [comp_times ht hr ht' (he r t).1 (he r t).2]
      simp [Rat.num_divInt_den])
    rw [this, List.map_map]
    congr 2
    funext p
    simp [Rat.num_divInt_den]
  have hzl : (zipR s l).length = s.length := by unfold zipR; simp [hl]
  obtain ⟨s1, s2⟩ := hsum (j + k) (zipR s l) st (zipR_sm h1 h2) (by rw [hzl]; exact hz)
  cases hv with
  | l => simp [Pre.t_mean_of, env0, e, s1]
  | t => simp [Pre.t_mean_of, env0, e, s1]
def HNeed (g : G) : Prop := ∀ (v x : D) (b : Bool) (st : DS), AreV v x b → g.call "need_shares" [v, x] st = if b then .ok .non st else .raise "BadShares" [] st
theorem need_shares_ok {g : G} (h : HAre g) {v x : D} {b : Bool} {st : DS} (a : AreV v x b) : callB g 2 2 Pre.t_need_shares [v, x] st = if b then .ok .non st else .raise "BadShares" [] st := by
  cases b with
  | true => exact need_ok (h v x true st a)
  | false => exact need_no (h v x false st a)
/-! ### mean -/
theorem ratios_all {g : G} {k : Nat} {l : List Rat} {st : DS} (hr : HRat g "is_ratio") (hs : ∀ r ∈ l, Sm k r) (hk : k ≤ 4000) (env : Env) (hi : ∀ d, lk (st1 (wipeE env [2]) 2 (some d)) 2 = some d) : mapR (compF g [2] (.nm 2) .nil (.call "is_ratio" (.cons (.var 2) .nil)) env) (l.map dR) st = .ok ((l.map dR).map fun d => .bl (isRat d)) st :=
  all_call (p := isRat) hi fun d hd => by
    obtain ⟨r, hr', rfl⟩ := List.mem_map.mp hd
    exact hr _ st (okR_dR ((hs r hr').mono (by omega)))
theorem rat_all (l : List Rat) : b1op .all (.lst ((l.map dR).map fun d => .bl (isRat d))) = some (.bl true) := by
  rw [b1_all, List.all_map]
  have : (l.all (isRat ∘ dR)) = true := by
    rw [List.all_eq_true]; exact fun r _ => isRat_dR r
  rw [this]
theorem mean_bad_shares {g : G} {k : Nat} {l : List Rat} {v u : D} {st : DS} (hv : RL v l) (hr : HRat g "is_ratio") (hn : HNeed g) (hs : ∀ r ∈ l, Sm k r) (hk : k ≤ 4000) (h0 : l ≠ []) (ha : AreV u (.int l.length) false) : callB g 2 3 Pre.t_mean [v, u] st = .raise "BadShares" [] st := by
  have h1 : ¬ ((l.length : Int) = 0) := by have := List.length_pos_iff.mpr h0; omega
  have hb := rat_all l
  have hq := hn u (.int l.length) false st ha
  cases hv with
  | l =>
    have e := ratios_all (st := st) hr hs hk [some (.lst (l.map dR)), some u, none] (fun d => by simp)
    simp only [List.map_map] at e hb
    simp [Pre.t_mean, env0, tyD, h0, e, hb, hq]
  | t =>
    have e := ratios_all (st := st) hr hs hk [some (.tup (l.map dR)), some u, none] (fun d => by simp)
    simp only [List.map_map] at e hb
    simp [Pre.t_mean, env0, tyD, h0, e, hb, hq]
theorem mean_ok {g : G} {k : Nat} {s l : List Rat} {v u : D} {m : Rat} {st : DS} (hv : RL2 u v s l) (hr : HRat g "is_ratio") (hn : HNeed g) (hs : ∀ r ∈ l, Sm k r) (hk : k ≤ 4000) (h0 : l ≠ []) (ha : AreV u (.int l.length) true) (hm : g.call "mean_of" [v, u] st = .ok (dR m) st) :
    callB g 2 3 Pre.t_mean [v, u] st = .ok (dR m) st := by
  have h1 : ¬ ((l.length : Int) = 0) := by have := List.length_pos_iff.mpr h0; omega
  have hb := rat_all l
  have hq := hn u (.int l.length) true st ha
  cases hv with
  | l =>
    have e := ratios_all (st := st) hr hs hk [some (.lst (l.map dR)), some (.lst (s.map dR)), none] (fun d => by simp)
    simp only [List.map_map] at e hb
    simp [Pre.t_mean, env0, tyD, h0, e, hb, hq, hm]
  | t =>
    have e := ratios_all (st := st) hr hs hk [some (.tup (l.map dR)), some (.tup (s.map dR)), none] (fun d => by simp)
    simp only [List.map_map] at e hb
    simp [Pre.t_mean, env0, tyD, h0, e, hb, hq, hm]
/-- no list of ratios -/
inductive BadR : D → Prop
  | no {v : D} : ty1 v = true → tyD v .list = false → tyD v .tuple = false → BadR v
  | nil : BadR (.lst [])
  | one {d : D} : okR d → isRat d = false → BadR (.lst [d])
theorem mean_bad_ratios {g : G} {v u : D} {st : DS} (hr : HRat g "is_ratio") (h : BadR v) : callB g 2 3 Pre.t_mean [v, u] st = .raise "BadRatios" [] st := by
  cases h with
  | no h1 h2 h3 => simp [Pre.t_mean, env0, h1, h2, h3]
  | nil => simp [Pre.t_mean, env0, tyD]
  | @one d h1 h2 =>
    have e := all_call (g := g) (f := "is_ratio") (p := isRat) (l := [d]) (st := st) (env := [some (.lst [d]), some u, none]) (i := 2) (fun d => by simp) (fun x hx => by rw [List.mem_singleton.mp hx]; exact hr d st h1)
    simp only [List.map_cons, List.map_nil, h2] at e
    simp [Pre.t_mean, env0, tyD, e]
end Ev
/-! Pr9: words. -/
namespace Ev
open PySem L2
abbrev abc : Str := "abcdefghijklmnopqrstuvwxyz"
def isLt (c : Nat) : Bool := decide (97 ≤ c) && decide (c ≤ 122)
theorem abc_list : abc.cps.toList = List.range' 97 26 := by decide +kernel
theorem mem_abc (c : Nat) : c ∈ abc.cps.toList ↔ isLt c = true := by
  rw [abc_list, List.mem_range'_1]
  simp [isLt]; omega
def isWd (s : Str) : Bool := decide (1 ≤ s.length) && decide (s.length ≤ 8) && s.cps.toList.all isLt
theorem items_s {s : Str} (h : s.length ≤ 1000000) : itemsD (.str s) = some (s.cps.toList.map fun c => .str ⟨#[c]⟩) := if_pos h
theorem len_s {s : Str} (h : s.length ≤ 1000000) : lenD (.str s) = some (s.length : Int) := if_pos h
theorem in_abc (c : Nat) : isinD (.str ⟨#[c]⟩) (.str abc) = some (isLt c) := by
  show some (decide (c ∈ abc.cps.toList)) = _
  congr 1
  rw [Bool.eq_iff_iff, decide_eq_true_eq]
  exact mem_abc c
theorem comp_in {g : G} {e : E} {env : Env} {st : DS} (he : ∀ env st, evE g e env st = .ok (.str abc) st) (c : Nat) (hl : ∀ d, lk (st1 (wipeE env [1]) 1 (some d)) 1 = some d) :
    compF g [1] (.nm 1) .nil (.cmp .isin (.bor 1) e) env (.str ⟨#[c]⟩) st = .ok (some (.bl (isLt c))) st := by
  unfold compF
  simp only [bindT_nm, ofO_some, Res.bind_ok, evCs_nil, if_true, evE_cmp, evE_bor, hl, he, cmp_in, in_abc, Option.map_some]
  rfl
theorem isWd_long {s : Str} (h : ¬ s.length ≤ 8) : isWd s = false := by unfold isWd; rw [decide_eq_false h]; simp
theorem isWd_short {s : Str} (h : ¬ 1 ≤ s.length) : isWd s = false := by unfold isWd; rw [decide_eq_false h]; simp
theorem is_word_ok {g : G} {s : Str} {st : DS} (hg : g.glob "LETTERS" = some (.str abc)) (h : s.length ≤ 1000000) : callB g 1 2 Pre.t_is_word [.str s] st = .ok (.bl (isWd s)) st := by
  by_cases h1 : 1 ≤ s.length
  · by_cases h8 : s.length ≤ 8
    · have e : mapR (compF g [1] (.nm 1) .nil (.cmp .isin (.bor 1) (.glob "LETTERS")) [some (.str s), none]) (s.cps.toList.map fun c => .str ⟨#[c]⟩) st = .ok (s.cps.toList.map fun c => .bl (isLt c)) st := by
        have := mapR_map (F := compF g [1] (.nm 1) .nil (.cmp .isin (.bor 1) (.glob "LETTERS")) [some (.str s), none]) (h := fun d => match d with | .str x => .bl (isLt (x.cps.toList.headD 0)) | d => d) (st := st) (ds := s.cps.toList.map fun c => .str ⟨#[c]⟩) (fun d hd => by
          obtain ⟨c, _, rfl⟩ := List.mem_map.mp hd
          rw [comp_in (fun env st => by simp [hg]) c (fun d => by simp)]
          rfl)
        rw [this, List.map_map]
        rfl
      have i1 : (1 : Int) ≤ (s.length : Int) := by omega
      have i8 : (s.length : Int) ≤ 8 := by omega
      have hb := b1_all isLt s.cps.toList
      simp only [b1_allL] at hb
      simp [Pre.t_is_word, env0, tyD, len_s h, items_s h, i1, i8, e, hb, isWd, h1, h8]
    · have i1 : (1 : Int) ≤ (s.length : Int) := by omega
      have i8 : ¬ (s.length : Int) ≤ 8 := by omega
      simp [Pre.t_is_word, env0, tyD, len_s h, i1, i8, isWd_long h8]
  · have i1 : ¬ (1 : Int) ≤ (s.length : Int) := by omega
    simp [Pre.t_is_word, env0, tyD, len_s h, i1, isWd_short h1]
theorem is_word_no {g : G} {v : D} {st : DS} (h1 : ty1 v = true) (h2 : tyD v .str = false) : callB g 1 2 Pre.t_is_word [v] st = .ok (.bl false) st := by
  simp [Pre.t_is_word, env0, h1, h2]
theorem law_is_word_no {g : G} {v : D} {st : DS} (h1 : ty1 v = true) (h2 : tyD v .str = false) : callB g 1 2 Pre.t_law_is_word [v] st = .ok (.bl false) st := by
  simp [Pre.t_law_is_word, env0, h1, h2]
theorem comp_notin {g : G} {env : Env} {st : DS} (c : Nat) (hl : ∀ d, lk (st1 (wipeE env [1]) 1 (some d)) 1 = some d) :
    compF g [1] (.nm 1) (.cons (.cmp .notin (.bor 1) (.str abc)) .nil) (.var 1) env (.str ⟨#[c]⟩) st = .ok (if isLt c then none else some (.str ⟨#[c]⟩)) st := by
  have h' := hl (.str ⟨#[c]⟩)
  unfold compF
  simp only [bindT_nm, ofO_some, Res.bind_ok]
  generalize st1 (wipeE env [1]) 1 (some (.str ⟨#[c]⟩)) = e2 at h' ⊢
  simp only [evCs_cons, evCs_nil, evE_cmp, evE_bor, evE_str, h', cmp_notin, in_abc, Option.map_some, asB_bl, ofO_some, Res.bind_ok]
  cases isLt c <;> simp [h', Res.noRaise]
def ntF : D → Option D
  | .str x => if isLt (x.cps.toList.headD 0) then none else some (.str x)
  | d => some d
theorem ntF_c (c : Nat) : ntF (.str ⟨#[c]⟩) = if isLt c then none else some (.str ⟨#[c]⟩) := rfl
theorem ntF_list : ∀ l : List Nat, (l.map fun c => (.str ⟨#[c]⟩ : D)).filterMap ntF = (l.filter fun c => !isLt c).map fun c => .str ⟨#[c]⟩
  | [] => rfl
  | c :: r => by
    rw [List.map_cons, List.filterMap_cons, ntF_c, ntF_list r]
    cases h : isLt c <;> simp [h]
theorem strOk_1 {c : Nat} (h : c < 0x110000) : PyData.strOk ⟨#[c]⟩ = true := by unfold PyData.strOk; simp [h]
theorem strOk_mem {s : Str} (h : PyData.strOk s = true) : ∀ c ∈ s.cps.toList, c < 0x110000 := fun c hc => by
  unfold PyData.strOk at h
  rw [← Array.all_toList, List.all_eq_true] at h
  simpa using h c hc
theorem law_is_word_ok {g : G} {s : Str} {st : DS} (h : s.length ≤ 1000000) (ho : PyData.strOk s = true) : callB g 1 2 Pre.t_law_is_word [.str s] st = .ok (.bl (isWd s)) st := by
  by_cases h1 : 1 ≤ s.length
  · by_cases h8 : s.length ≤ 8
    · have e : mapR (compF g [1] (.nm 1) (.cons (.cmp .notin (.bor 1) (.str abc)) .nil) (.var 1) [some (.str s), none]) (s.cps.toList.map fun c => .str ⟨#[c]⟩) st = .ok ((s.cps.toList.filter fun c => !isLt c).map fun c => .str ⟨#[c]⟩) st := by
        rw [mapR_pure (h := ntF) (fun d hd => by
          obtain ⟨c, _, rfl⟩ := List.mem_map.mp hd
          rw [comp_notin c (fun d => by simp), ntF_c]), ntF_list]
      have i1 : (1 : Int) ≤ (s.length : Int) := by omega
      have i8 : (s.length : Int) ≤ 8 := by omega
      have q := cmp_eq (.lst ((s.cps.toList.filter fun c => !isLt c).map fun c => .str ⟨#[c]⟩)) (.lst []) (by
        rw [show (60 : Nat) = 59 + 1 from rfl, eqN_lst, List.all_eq_true]
        intro d hd
        obtain ⟨c, hc, rfl⟩ := List.mem_map.mp hd
        rw [eqN_str]
        exact strOk_1 (strOk_mem ho c (List.mem_filter.mp hc).1)) (by simp)
      have er : eqD (.lst ((s.cps.toList.filter fun c => !isLt c).map fun c => .str ⟨#[c]⟩)) (.lst []) = s.cps.toList.all isLt := by
        rw [eqD_lst]
        clear q e ho h h1 h8 i1 i8
        induction s.cps.toList with
        | nil => rfl
        | cons c r ih =>
          by_cases hc : isLt c = true
          · simp [hc, ih]
          · have hc : isLt c = false := by simpa using hc
            simp [hc]
      rw [er] at q
      simp [Pre.t_law_is_word, env0, tyD, len_s h, items_s h, i1, i8, e, q, isWd, h1, h8]
    · have i1 : (1 : Int) ≤ (s.length : Int) := by omega
      have i8 : ¬ (s.length : Int) ≤ 8 := by omega
      simp [Pre.t_law_is_word, env0, tyD, len_s h, i1, i8, isWd_long h8]
  · have i1 : ¬ (1 : Int) ≤ (s.length : Int) := by omega
    simp [Pre.t_law_is_word, env0, tyD, len_s h, i1, isWd_short h1]
end Ev
/-! Pr10: drawn words, shares, numbers. -/
namespace Ev
open PySem L2
theorem mapR_okD {F : D → DS → Res (Option D)} {P : D → Prop} (c : Nat) : ∀ (ds : List D) (n : Nat) (st : DS), DOk n st → n + c * ds.length ≤ 2 ^ 40 → (∀ d ∈ ds, ∀ (m : Nat) (st : DS), DOk m st → m + c ≤ 2 ^ 40 → Ok (F d st) fun r st' => (∃ x, r = some x ∧ P x) ∧ DOk (m + c) st') →
    Ok (mapR F ds st) fun rs st' => rs.length = ds.length ∧ (∀ x ∈ rs, P x) ∧ DOk (n + c * ds.length) st'
  | [], n, st, h, _, _ => .of ⟨rfl, fun _ h => (nomatch h), h⟩
  | d :: ds, n, st, h, hn, hF => by
    rw [List.length_cons, Nat.mul_add] at hn
    refine Ok.bind (hF d List.mem_cons_self n st h (by omega)) fun r st1 ⟨⟨x, e, px⟩, h1⟩ => ?_
    subst e
    refine Ok.bind (mapR_okD c ds (n + c) st1 h1 (by omega) fun d' hd => hF d' (List.mem_cons_of_mem _ hd)) fun rs st2 ⟨e1, e2, h2⟩ => ?_
    refine .of ⟨by simp [e1], fun y hy => ?_, h2.mono (by rw [List.length_cons, Nat.mul_add]; omega)⟩
    rcases List.mem_cons.mp hy with e | hy
    · rw [e]; exact px
    · exact e2 y hy
theorem rangeL_len (lo : Int) : ∀ n, (rangeL lo n).length = n
  | 0 => rfl
  | n + 1 => by rw [rangeL, List.length_cons, rangeL_len]
theorem rangeD_1 {j : Int} (h : 0 ≤ j) (h2 : j ≤ 1000000) : rangeD [.int j] = some (rangeL 0 j.toNat) := if_pos ⟨by omega, h2⟩
abbrev ch (c : Nat) : Str := ⟨#[c]⟩
theorem asSs_map (f : Nat → Str) : ∀ cs : List Nat, asSs (cs.map fun c => .str (f c)) = some (cs.map f)
  | [] => rfl
  | c :: r => by
    show (match D.str (f c), asSs (r.map fun c => .str (f c)) with | .str b, some bs => some (b :: bs) | _, _ => none) = _
    rw [asSs_map f r]; rfl
theorem join_ch : ∀ cs : List Nat, (Str.join ("" : Str) (cs.map ch)).cps.toList = cs
  | [] => rfl
  | [c] => rfl
  | c :: d :: r => by
    have ih := join_ch (d :: r)
    show ((⟨#[c]⟩ : Str) ++ ("" : Str) ++ Str.join ("" : Str) ((d :: r).map ch)).cps.toList = _
    rw [Str.cps_append, Str.cps_append, Array.toList_append, Array.toList_append, ih]
    rfl
theorem join_ok {cs : List Nat} (h : cs.length ≤ 1000) : ∃ w : Str, joinD "" (.lst (cs.map fun c => .str (ch c))) = some (.str w) ∧ w.cps.toList = cs := by
  refine ⟨Txt.join "" (cs.map ch), ?_, ?_⟩
  · unfold joinD
    show (seqD (.lst _)).bind _ = _
    rw [show seqD (.lst (cs.map fun c => (.str (ch c) : D))) = some (cs.map fun c => .str (ch c)) from rfl]
    simp only [Option.bind_some, asSs_map]
    have hs : ((cs.map ch).map (·.length)).sum ≤ 1000000 := by
      rw [List.map_map]
      have : ∀ l : List Nat, ((l.map ((·.length) ∘ ch)).sum) = l.length := by
        intro l
        induction l with
        | nil => rfl
        | cons a l ih => rw [List.map_cons, List.sum_cons, ih, List.length_cons]; show 1 + _ = _; omega
      rw [this]; omega
    rw [if_pos (by rw [show ("" : Str).length = 0 from rfl]; omega)]
  · rw [show Txt.join "" (cs.map ch) = Str.join ("" : Str) (cs.map ch) from StrLaws.glued_eq_join _ _, join_ch]
theorem isWd_of {w : Str} {cs : List Nat} (h : w.cps.toList = cs) (h1 : 1 ≤ cs.length) (h8 : cs.length ≤ 8) (hl : ∀ c ∈ cs, isLt c = true) : isWd w = true := by
  have hlen : w.length = cs.length := by rw [← h]; rfl
  unfold isWd
  rw [h, hlen, decide_eq_true h1, decide_eq_true h8, List.all_eq_true.mpr hl]
  rfl
theorem isWd_len {w : Str} (h : isWd w = true) : 1 ≤ w.length ∧ w.length ≤ 8 ∧ ∀ c ∈ w.cps.toList, isLt c = true := by
  unfold isWd at h
  rw [Bool.and_eq_true, Bool.and_eq_true] at h
  exact ⟨of_decide_eq_true h.1.1, of_decide_eq_true h.1.2, List.all_eq_true.mp h.2⟩
theorem strOk_of {w : Str} (h : ∀ c ∈ w.cps.toList, c < 0x110000) : PyData.strOk w = true := by
  unfold PyData.strOk
  rw [← Array.all_toList, List.all_eq_true]
  intro c hc
  simpa using h c hc
theorem isLt_lt {c : Nat} (h : isLt c = true) : 97 ≤ c ∧ c ≤ 122 := by
  unfold isLt at h
  rw [Bool.and_eq_true] at h
  exact ⟨of_decide_eq_true h.1, of_decide_eq_true h.2⟩
theorem isWd_ok {w : Str} (h : isWd w = true) : PyData.strOk w = true := strOk_of fun c hc => by
  have := isLt_lt ((isWd_len h).2.2 c hc)
  omega
theorem chs_of {rs : List D} (h : ∀ x ∈ rs, ∃ c, x = .str (ch c) ∧ isLt c = true) : ∃ cs : List Nat, rs = cs.map (fun c => .str (ch c)) ∧ ∀ c ∈ cs, isLt c = true := by
  induction rs with
  | nil => exact ⟨[], rfl, fun _ h => (nomatch h)⟩
  | cons x rs ih =>
    obtain ⟨c, rfl, hc⟩ := h x List.mem_cons_self
    obtain ⟨cs, rfl, hcs⟩ := ih fun y hy => h y (List.mem_cons_of_mem _ hy)
    exact ⟨c :: cs, rfl, fun y hy => by
      rcases List.mem_cons.mp hy with e | hy
      · rw [e]; exact hc
      · exact hcs y hy⟩
theorem list_abc : listD (.str abc) = some (.lst (abc.cps.toList.map fun c => .str ⟨#[c]⟩)) := by
  have h : abc.cps.size ≤ 1000000 := by decide +kernel
  unfold listD
  exact if_pos h
theorem asSs_1 (w : Str) : asSs [.str w] = some [w] := rfl
theorem sort_1 (w : Str) : sortD (.lst [.str w]) = some [.str w] := by
  have h1 : asIs [D.str w] = none := rfl
  unfold sortD
  simp only [h1, asSs_1, Option.bind_some]
  unfold sortS
  simp
def wordE : E := .join (.str ("" : Str)) (.comp [4] (.nm 4) (.range1 (.bin .add (.int 1) (.call ("_law_draw" : Str) (.cons (.var 0) (.cons (.int 8) .nil))))) .nil (.call ("_law_pick" : Str) (.cons (.var 0) (.cons (.b1 .list (.str ("abcdefghijklmnopqrstuvwxyz" : Str))) .nil))))
theorem word_drawn {g : G} (hd : HDraw g) (hp : HPick g) (n : Nat) (st : DS) (h : DOk n st) (hn : n ≤ 2 ^ 39) (e1 e2 e3 e4 : Option D) : Ok (evE g wordE [some .drw, e1, e2, e3, e4] st) fun d st' => (∃ w, d = .str w ∧ isWd w = true) ∧ DOk (n + 9) st' := by
  obtain ⟨d, st1, q1, ⟨k, rfl, k0, k1⟩, h1⟩ := hd n 8 st h (by omega) (by decide) (Nat.lt_of_lt_of_le (show (8 : Int).natAbs < 2 ^ 4 by decide) (Nat.pow_le_pow_right (by decide) (by decide)))
  have hr := rangeD_1 (j := 1 + k) (by omega) (by omega)
  have hl := rangeL_len 0 (1 + k).toNat
  obtain ⟨rs, st2, q2, l2, p2, h2⟩ := mapR_okD (F := compF g [4] (.nm 4) .nil (.call ("_law_pick" : Str) (.cons (.var 0) (.cons (.b1 .list (.str ("abcdefghijklmnopqrstuvwxyz" : Str))) .nil))) [some .drw, e1, e2, e3, e4]) (P := fun x => ∃ c, x = .str (ch c) ∧ isLt c = true) 1 (rangeL 0 (1 + k).toNat) (n + 1) st1 h1 (by rw [hl]; omega) (fun d hd m st hm hm2 => by
    obtain ⟨x, st3, q3, m3, h3⟩ := hp m (abc.cps.toList.map fun c => .str ⟨#[c]⟩) st hm (by omega) (by rw [abc_list]; decide) (by rw [List.length_map, abc_list]; decide)
    obtain ⟨c, hc, rfl⟩ := List.mem_map.mp m3
    refine ⟨some (.str (ch c)), st3, ?_, ⟨_, rfl, c, rfl, (mem_abc c).mp hc⟩, h3⟩
    unfold compF
    simp [list_abc, q3, Res.noRaise])
  obtain ⟨cs, rfl, hcs⟩ := chs_of p2
  rw [List.length_map, hl] at l2
  obtain ⟨w, jw, sw⟩ := join_ok (cs := cs) (by omega)
  refine ⟨.str w, st2, ?_, ⟨w, rfl, isWd_of sw (by omega) (by omega) hcs⟩, h2.mono (by rw [hl]; omega)⟩
  simp [wordE, q1, hr, q2, jw]
theorem law_words_ok {g : G} (hd : HDraw g) (hp : HPick g) (n : Nat) (st : DS) (h : DOk n st) (hn : n ≤ 2 ^ 39) : Ok (callB g 2 5 Pre.t_law_words [.drw, .int 1] st) fun d st' => (∃ w, d = .lst [.str w] ∧ isWd w = true) ∧ DOk (n + 9) st' := by
  obtain ⟨d, st1, q1, ⟨w, rfl, hw⟩, h1⟩ := word_drawn hd hp n st h hn (some (.int 1)) (some (.lst [])) none none
  refine ⟨.lst [.str w], st1, ?_, ⟨w, rfl, hw⟩, h1⟩
  have hni : isinD (.str w) (.lst []) = some false := by
    have := isWd_ok hw
    simp [isinD, this]
  have hadd := bin_addL [] [.str w] (by simp)
  have step1 : whF g (.cmp .lt (.b1 .len (.bor 2)) (.bor 1)) (match Pre.t_law_words with | .cons _ (.cons (.while_ _ b) _) => b | _ => .nil) ([some .drw, some (.int 1), some (.lst []), none, none], []) st = .ok (.inl ([some .drw, some (.int 1), some (.lst [.str w]), some (.str w), none], [])) st1 := by
    have q1 : evE g (.join (.str ("" : Str)) (.comp [4] (.nm 4) (.range1 (.bin .add (.int 1) (.call ("_law_draw" : Str) (.cons (.var 0) (.cons (.int 8) .nil))))) .nil (.call ("_law_pick" : Str) (.cons (.var 0) (.cons (.b1 .list (.str ("abcdefghijklmnopqrstuvwxyz" : Str))) .nil))))) [some .drw, some (.int 1), some (.lst []), none, none] st = .ok (.str w) st1 := q1
    simp only [whF, Pre.t_law_words, evSs_cons, evSs_nil, evS_asg, q1, Res.bind_ok, evT_eq, evE_cmp, evE_b1, evE_bor, lk_0, lk_s, ofO_some, b1_len, len_l, List.length_nil, Option.map_some, cmp_lt, asB_bl, if_true, st1_0, st1_s]
    simp [hni, hadd]
  have step2 : ∀ b, whF g (.cmp .lt (.b1 .len (.bor 2)) (.bor 1)) b ([some .drw, some (.int 1), some (.lst [.str w]), some (.str w), none], []) st1 = .ok (.inr (([some .drw, some (.int 1), some (.lst [.str w]), some (.str w), none], []), .nx)) st1 := fun b => by
    simp [whF]
  have lp : loopR (whF g (.cmp .lt (.b1 .len (.bor 2)) (.bor 1)) (match Pre.t_law_words with | .cons _ (.cons (.while_ _ b) _) => b | _ => .nil)) ([some .drw, some (.int 1), some (.lst []), none, none], []) st = .ok (([some .drw, some (.int 1), some (.lst [.str w]), some (.str w), none], []), .nx) st1 := by
    rw [loopR_unroll, step1, Res.bind_ok]
    show loopR _ _ _ = _
    rw [loopR_unroll, step2]
    rfl
  have ht : Pre.t_law_words = .cons (.asg (.nm 2) false (.lst .nil)) (.cons (.while_ (.cmp .lt (.b1 .len (.bor 2)) (.bor 1)) (match Pre.t_law_words with | .cons _ (.cons (.while_ _ b) _) => b | _ => .nil)) (.cons (.ret (.b1 .sorted (.bor 2))) .nil)) := rfl
  rw [ht]
  have hs : b1op .sorted (.lst [.str w]) = some (.lst [.str w]) := by
    show (sortD (.lst [.str w])).map D.lst = _
    rw [sort_1]; rfl
  simp [env0, lp, hs]
end Ev
/-! Pr11: drawn shares and numbers. -/
namespace Ev
open PySem L2
theorem b1_sum (ws : List Int) : b1op .sum (.lst (ws.map .int)) = some (.int ws.sum) := by
  show (asIs (ws.map D.int)).map (fun ns => D.int ns.sum) = _
  rw [asIs_map]; rfl
theorem cut_1 (xs : List D) (h : 1 ≤ xs.length) : cutL xs (some 1) none = xs.drop 1 := by
  unfold cutL
  rw [show (1 : Int) = ((1 : Nat) : Int) from rfl, HT.sIx_nat, HT.sIx_none]
  rw [Nat.min_eq_left h]
  exact List.take_of_length_le (by rw [List.length_drop]; omega)
theorem ints_of {rs : List D} (h : ∀ x ∈ rs, ∃ w : Int, x = .int w ∧ 0 ≤ w ∧ w ≤ 8) : ∃ ws : List Int, rs = ws.map .int ∧ ∀ w ∈ ws, 0 ≤ w ∧ w ≤ 8 := by
  induction rs with
  | nil => exact ⟨[], rfl, fun _ h => (nomatch h)⟩
  | cons x rs ih =>
    obtain ⟨c, rfl, hc⟩ := h x List.mem_cons_self
    obtain ⟨cs, rfl, hcs⟩ := ih fun y hy => h y (List.mem_cons_of_mem _ hy)
    exact ⟨c :: cs, rfl, fun y hy => by
      rcases List.mem_cons.mp hy with e | hy
      · rw [e]; exact hc
      · exact hcs y hy⟩
theorem sum_nn : ∀ {ws : List Int}, (∀ w ∈ ws, 0 ≤ w ∧ w ≤ 8) → 0 ≤ ws.sum ∧ ws.sum ≤ 8 * ws.length ∧ (ws.sum = 0 → ∀ w ∈ ws, w = 0) ∧ ∀ w ∈ ws, w ≤ ws.sum
  | [], _ => ⟨by simp, by simp, fun _ _ h => (nomatch h), fun _ h => (nomatch h)⟩
  | w :: ws, h => by
    obtain ⟨h1, h2, h3, h4⟩ := sum_nn fun x hx => h x (List.mem_cons_of_mem _ hx)
    have hw := h w List.mem_cons_self
    rw [List.sum_cons, List.length_cons]
    refine ⟨by omega, by omega, fun e x hx => ?_, fun x hx => ?_⟩
    · rcases List.mem_cons.mp hx with rfl | hx
      · omega
      · exact h3 (by omega) x hx
    · rcases List.mem_cons.mp hx with rfl | hx
      · omega
      · have := h4 x hx; omega
theorem law_weights_ok {g : G} (hd : HDraw g) (hp : HPick g) (n m : Nat) (st : DS) (h : DOk n st) (hn : n ≤ 2 ^ 39) (h1 : 1 ≤ m) (h6 : m ≤ 100) : Ok (callB g 3 5 Pre.t_law_weights [.drw, .int m, .int 9] st) fun d st' => (∃ ws : List Int, d = .lst (ws.map .int) ∧ ws.length = m ∧ (∀ w ∈ ws, 0 ≤ w ∧ w ≤ 8) ∧ 0 < ws.sum) ∧ DOk (n + 3 * m) st' := by
  have hr := rangeD_1 (j := (m : Int)) (by omega) (by omega)
  rw [Int.toNat_natCast] at hr
  have hl := rangeL_len 0 m
  obtain ⟨rs, st2, q2, l2, p2, h2⟩ := mapR_okD (F := compF g [4] (.nm 4) .nil (.call ("_law_pick" : Str) (.cons (.var 0) (.cons (.lst (.cons (.int 0) (.cons (.int 1) (.cons (.int 1) (.cons (.int 2) (.cons (.int 3) (.cons (.call ("_law_draw" : Str) (.cons (.var 0) (.cons (.var 2) .nil))) (.cons (.call ("_law_draw" : Str) (.cons (.var 0) (.cons (.var 2) .nil))) .nil)))))))) .nil))) [some .drw, some (.int m), some (.int 9), none, none]) (P := fun x => ∃ w : Int, x = .int w ∧ 0 ≤ w ∧ w ≤ 8) 3 (rangeL 0 m) n st h (by rw [hl]; omega) (fun d _ k s hk hk2 => by
    obtain ⟨x1, s1, q1, ⟨a, rfl, a0, a1⟩, h1⟩ := hd k 9 s hk (by omega) (by decide) (Nat.lt_of_lt_of_le (show (9 : Int).natAbs < 2 ^ 4 by decide) (Nat.pow_le_pow_right (by decide) (by decide)))
    obtain ⟨x2, s2, q2, ⟨b, rfl, b0, b1⟩, h2⟩ := hd (k + 1) 9 s1 h1 (by omega) (by decide) (Nat.lt_of_lt_of_le (show (9 : Int).natAbs < 2 ^ 4 by decide) (Nat.pow_le_pow_right (by decide) (by decide)))
    obtain ⟨x3, s3, q3, m3, h3⟩ := hp (k + 1 + 1) [.int 0, .int 1, .int 1, .int 2, .int 3, .int a, .int b] s2 h2 (by omega) (by simp) (by simp)
    refine ⟨some x3, s3, ?_, ⟨x3, rfl, ?_⟩, h3⟩
    · unfold compF
      simp [q1, q2, q3, Res.noRaise]
    · simp only [List.mem_cons, List.not_mem_nil, or_false] at m3
      rcases m3 with rfl | rfl | rfl | rfl | rfl | rfl | rfl
      · exact ⟨0, rfl, by decide, by decide⟩
      · exact ⟨1, rfl, by decide, by decide⟩
      · exact ⟨1, rfl, by decide, by decide⟩
      · exact ⟨2, rfl, by decide, by decide⟩
      · exact ⟨3, rfl, by decide, by decide⟩
      · exact ⟨a, rfl, a0, by omega⟩
      · exact ⟨b, rfl, b0, by omega⟩)
  obtain ⟨ws, rfl, hw⟩ := ints_of p2
  rw [List.length_map, hl] at l2
  obtain ⟨s1, s2, s3, s4⟩ := sum_nn hw
  have hb := b1_sum ws
  by_cases hs : 0 < ws.sum
  · exact ⟨.lst (ws.map .int), st2, by simp [Pre.t_law_weights, env0, hr, q2, hb, hs], ⟨ws, rfl, l2, hw, hs⟩, by rw [hl] at h2; exact h2⟩
  · have hz := s3 (by omega)
    cases ws with
    | nil => simp at l2; omega
    | cons w ws =>
      have hc : slop (some 1) none (.lst ((w :: ws).map .int)) = some (.lst (ws.map .int)) := by
        show some (D.lst (cutL _ _ _)) = _
        rw [cut_1 _ (by simp)]; rfl
      have ha := bin_addL [.int 1] (ws.map .int) (by simp at l2 ⊢; omega)
      refine ⟨.lst ((1 :: ws).map .int), st2, ?_, ⟨1 :: ws, rfl, l2, fun x hx => ?_, ?_⟩, by rw [hl] at h2; exact h2⟩
      · have hs' : ¬ 0 < w + ws.sum := by rw [List.sum_cons] at hs; exact hs
        simp only [List.map_cons, List.sum_cons] at hb hc q2
        simp [Pre.t_law_weights, env0, hr, q2, hb, hs', hc, ha]
      · rcases List.mem_cons.mp hx with rfl | hx
        · omega
        · exact hw x (List.mem_cons_of_mem _ hx)
      · have : ws.sum = 0 := by
          have e := hz w List.mem_cons_self
          rw [List.sum_cons] at s1 hs
          omega
        rw [List.sum_cons]; omega
def HWeights (g : G) : Prop := ∀ (n m : Nat) (st : DS), DOk n st → n ≤ 2 ^ 39 → 1 ≤ m → m ≤ 100 → Ok (g.call "_law_weights" [.drw, .int m, .int 9] st) fun d st' => (∃ ws : List Int, d = .lst (ws.map .int) ∧ ws.length = m ∧ (∀ w ∈ ws, 0 ≤ w ∧ w ≤ 8) ∧ 0 < ws.sum) ∧ DOk (n + 3 * m) st'
/-- the shares of weights -/
def shareOf (ws : List Int) : List Rat := ws.map fun w => Rat.divInt w ws.sum
theorem fold_div {S : Int} (hS : S ≠ 0) : ∀ (ws : List Int) (a : Int), (ws.map fun w => Rat.divInt w S).foldl (· + ·) (Rat.divInt a S) = Rat.divInt (a + ws.sum) S
  | [], a => by simp
  | w :: ws, a => by
    have e : Rat.divInt a S + Rat.divInt w S = Rat.divInt (a + w) S := by
      rw [Rat.divInt_eq_div, Rat.divInt_eq_div, Rat.divInt_eq_div, Rat.intCast_add]
      grind
    rw [List.map_cons, List.foldl_cons, e, fold_div hS ws (a + w), List.sum_cons, Int.add_assoc]
theorem divInt_same {S : Int} (hS : S ≠ 0) : Rat.divInt S S = 1 := by
  rw [show (1 : Rat) = Rat.divInt 1 1 from rfl, Rat.divInt_eq_divInt_iff hS (by decide)]
  omega
theorem shares_sum {ws : List Int} (h : 0 < ws.sum) : rsum (shareOf ws) = 1 := by
  have e := fold_div (S := ws.sum) (by omega) ws 0
  unfold rsum shareOf
  rw [show Rat.divInt 0 ws.sum = 0 from Rat.zero_divInt _] at e
  rw [e, Int.zero_add, divInt_same (by omega)]
theorem share_ch {w S : Int} (h0 : 0 ≤ w) (h1 : w ≤ S) (hS : 0 < S) : 0 ≤ Rat.divInt w S ∧ Rat.divInt w S ≤ 1 := by
  refine ⟨Rat.divInt_nonneg h0 (by omega), ?_⟩
  rw [← divInt_same (S := S) (by omega), Rat.divInt_eq_div, Rat.divInt_eq_div]
  have h2 : ((w : Int) : Rat) ≤ ((S : Int) : Rat) := Rat.intCast_le_intCast.mpr h1
  have h3 : (0 : Rat) < ((S : Int) : Rat) := by
    have := Rat.intCast_lt_intCast.mpr hS
    simpa using this
  rw [Rat.div_def, Rat.div_def]
  exact Rat.mul_le_mul_of_nonneg_right h2 (Rat.le_of_lt (Rat.inv_pos.mpr h3))
theorem shareOf_len (ws : List Int) : (shareOf ws).length = ws.length := List.length_map _
theorem shares_B {ws : List Int} (hw : ∀ w ∈ ws, 0 ≤ w ∧ w ≤ 8) (h : 0 < ws.sum) : shB (shareOf ws) = true := by
  unfold shB chs
  rw [shares_sum h, Bool.and_eq_true]
  refine ⟨?_, by decide⟩
  rw [List.all_eq_true]
  intro r hr
  obtain ⟨w, hw', rfl⟩ := List.mem_map.mp hr
  exact decide_eq_true (share_ch (hw w hw').1 ((sum_nn hw).2.2.2 w hw') h)
theorem shares_sm {ws : List Int} (hw : ∀ w ∈ ws, 0 ≤ w ∧ w ≤ 8) (h : 0 < ws.sum) (hl : ws.length ≤ 100) : ∀ r ∈ shareOf ws, Sm 10 r := fun r hr => by
  obtain ⟨w, hw', rfl⟩ := List.mem_map.mp hr
  have := hw w hw'
  have := (sum_nn hw).2.1
  exact Sm.divInt (by omega) (by omega) (by omega)
theorem law_shares_ok {g : G} (hw : HWeights g) (hq : HLow g "_law_q") (n m : Nat) (st : DS) (h : DOk n st) (hn : n ≤ 2 ^ 39) (h1 : 1 ≤ m) (h6 : m ≤ 100) :
    Ok (callB g 2 4 Pre.t_law_shares [.drw, .int m] st) fun d st' => (∃ s : List Rat, d = .tup (s.map dR) ∧ s.length = m ∧ shB s = true ∧ (∀ r ∈ s, Sm 10 r)) ∧ DOk (n + 3 * m) st' := by
  obtain ⟨d, st1, q1, ⟨ws, rfl, l1, w1, p1⟩, h2⟩ := hw n m st h hn h1 h6
  have hb := b1_sum ws
  have hs := (sum_nn w1).2.1
  have hsz : ws.sum.natAbs < 2 ^ 8999 := Nat.lt_of_lt_of_le (show ws.sum.natAbs < 2 ^ 10 by omega) (Nat.pow_le_pow_right (by decide) (by decide))
  have e : mapR (compF g [3] (.nm 3) .nil (.call "_law_q" (.cons (.var 3) (.cons (.b1 .sum (.bor 2)) .nil))) [some .drw, some (.int m), some (.lst (ws.map .int)), none]) (ws.map .int) st1 = .ok ((shareOf ws).map dR) st1 := by
    rw [mapR_map (h := fun d => match d with | .int w => dR (Rat.divInt w ws.sum) | d => d) (fun d hd => by
      obtain ⟨w, hw', rfl⟩ := List.mem_map.mp hd
      unfold compF
      simp [hb, hq w ws.sum st1 (by omega) hsz, Res.noRaise])]
    unfold shareOf
    rw [List.map_map, List.map_map]
    rfl
  refine ⟨.tup ((shareOf ws).map dR), st1, ?_, ⟨shareOf ws, rfl, by rw [shareOf_len, l1], shares_B w1 p1, shares_sm w1 p1 (by omega)⟩, h2⟩
  simp [Pre.t_law_shares, env0, q1, e]
theorem law_number_ok {g : G} (hd : HDraw g) (hp : HPick g) (hq : HLow g "_law_q") (n : Nat) (st : DS) (h : DOk n st) (hn : n + 4 ≤ 2 ^ 40) : Ok (callB g 2 4 Pre.t_law_number [.drw, .int 99] st) fun d st' => (∃ r : Rat, d = dR r ∧ Sm 7 r) ∧ DOk (n + 4) st' := by
  have sz : ∀ k : Int, k.natAbs < 2 ^ 10 → k.natAbs < 2 ^ 8999 := fun k hk => Nat.lt_of_lt_of_le hk (Nat.pow_le_pow_right (by decide) (by decide))
  obtain ⟨x1, s1, q1, ⟨a, rfl, a0, a1⟩, h1⟩ := hd n 100 st h (by omega) (by decide) (sz _ (by decide))
  obtain ⟨x2, s2, q2, m2, h2⟩ := hp (n + 1) [.int 1, .int 1, .int 3, .int 99] s1 h1 (by omega) (by simp) (by decide)
  have e2 : ∃ r : Int, x2 = .int r ∧ 0 < r ∧ r ≤ 99 := by
    simp only [List.mem_cons, List.not_mem_nil, or_false] at m2
    rcases m2 with rfl | rfl | rfl | rfl
    · exact ⟨1, rfl, by decide, by decide⟩
    · exact ⟨1, rfl, by decide, by decide⟩
    · exact ⟨3, rfl, by decide, by decide⟩
    · exact ⟨99, rfl, by decide, by decide⟩
  obtain ⟨r, rfl, r0, r1⟩ := e2
  obtain ⟨x3, s3, q3, ⟨b, rfl, b0, b1⟩, h3⟩ := hd (n + 1 + 1) r s2 h2 (by omega) r0 (sz _ (by omega))
  obtain ⟨x4, s4, q4, ⟨c, rfl, c0, c1⟩, h4⟩ := hd (n + 1 + 1 + 1) 2 s3 h3 (by omega) (by decide) (sz _ (by decide))
  have hb0 : (1 + b) ≠ 0 := by omega
  by_cases hc : c = 0
  · subst hc
    exact ⟨dR (Rat.divInt a (1 + b)), s4, by simp [Pre.t_law_number, env0, q1, q2, q3, q4, hq a (1 + b) s4 hb0 (sz _ (by omega))], ⟨_, rfl, Sm.divInt (by omega) (by omega) hb0⟩, h4⟩
  · exact ⟨dR (Rat.divInt (-a) (1 + b)), s4, by simp [Pre.t_law_number, env0, q1, q2, q3, q4, hc, hq (-a) (1 + b) s4 hb0 (sz _ (by omega))], ⟨_, rfl, Sm.divInt (by omega) (by omega) hb0⟩, h4⟩
end Ev
/-! Pr12: means, as the law tries them. -/
namespace Ev
open PySem L2
@[simp] theorem catch_ok (d : D) (st : DS) : catchR (.ok d st) = .ok .non st := rfl
@[simp] theorem catch_raise (c : Str) (fs : List D) (st : DS) : catchR (.raise c fs st) = .ok (.exc c fs) st := rfl
@[simp] theorem isin_cls (g : G) (c x : Str) (fs : List D) : isinT g (.exc c fs) [.cls x] = some ((g.sub c).contains x) := rfl
@[simp] theorem isin_clsN (g : G) (x : Str) : isinT g .non [.cls x] = none := rfl
@[simp] theorem perm_10 (x y : D) : permL [1, 0] [x, y] = [y, x] := rfl
@[simp] theorem perm_0 (x : D) : permL [0] [x] = [x] := rfl
def HSame (g : G) : Prop := ∀ (x : D) (st : DS), eqN 50 x = true → nodes x ≤ 1000000 → g.call "_law_same" [x, x] st = .ok (.bl true) st
def HMeanOk (g : G) : Prop := ∀ (j k : Nat) (s l : List Rat) (u v : D) (st : DS), RL2 u v s l → (∀ r ∈ s, Sm j r) → (∀ r ∈ l, Sm k r) → s.length = l.length → j ≤ 4000 → k ≤ 4000 → 1 + (j + k + 1) * s.length ≤ 4000 → l ≠ [] → AreV u (.int l.length) true → g.call "mean" [v, u] st = .ok (dR (rsum (zipR s l))) st
def HMeanSh (g : G) : Prop := ∀ (k : Nat) (l : List Rat) (u v : D) (st : DS), RL v l → (∀ r ∈ l, Sm k r) → k ≤ 4000 → l ≠ [] → AreV u (.int l.length) false → g.call "mean" [v, u] st = .raise "BadShares" [] st
def HMeanR (g : G) : Prop := ∀ (v u : D) (st : DS), BadR v → g.call "mean" [v, u] st = .raise "BadRatios" [] st
def HShares (g : G) : Prop := ∀ (n m : Nat) (st : DS), DOk n st → n ≤ 2 ^ 39 → 1 ≤ m → m ≤ 100 → Ok (g.call "_law_shares" [.drw, .int m] st) fun d st' => (∃ s : List Rat, d = .tup (s.map dR) ∧ s.length = m ∧ shB s = true ∧ (∀ r ∈ s, Sm 10 r)) ∧ DOk (n + 3 * m) st'
def HNumber (g : G) : Prop := ∀ (n : Nat) (st : DS), DOk n st → n + 4 ≤ 2 ^ 40 → Ok (g.call "_law_number" [.drw, .int 99] st) fun d st' => (∃ r : Rat, d = dR r ∧ Sm 7 r) ∧ DOk (n + 4) st'
theorem dR_nodes (r : Rat) : eqN 50 (dR r) = true ∧ nodes (dR r) ≤ 1000000 := ⟨by simp, by simp [nodes, nodesL]⟩
theorem cut_last (xs : List D) (x : D) : slop none (some (-1)) (.lst (xs ++ [x])) = some (.lst xs) := by
  show some (D.lst (cutL _ _ _)) = _
  unfold cutL
  have e1 : HT.sIx (xs ++ [x]).length 0 none = 0 := rfl
  have e2 : HT.sIx (xs ++ [x]).length (xs ++ [x]).length (some (-1)) = xs.length := by
    show (if (-1 : Int) < 0 then ((-1 : Int) + (((xs ++ [x]).length : Nat) : Int)).toNat else min (-1 : Int).toNat (xs ++ [x]).length) = xs.length
    rw [if_pos (by decide), List.length_append]
    simp
    omega
  rw [e1, e2, Nat.sub_zero, List.drop_zero, List.take_left']
  rfl
theorem ix_last (xs : List D) (x : D) : ixop (.lst (xs ++ [x])) (.int (-1)) = some x := by
  show atI _ _ = _
  unfold atI ixN
  rw [if_neg (by decide), if_pos (by rw [List.length_append]; simp; omega)]
  have : ((-1 : Int) + ((xs ++ [x]).length : Nat)).toNat = xs.length := by rw [List.length_append]; simp; omega
  simp only [Option.bind_some, this]
  simp
theorem rats_of {k : Nat} {rs : List D} (h : ∀ x ∈ rs, ∃ r : Rat, x = dR r ∧ Sm k r) : ∃ l : List Rat, rs = l.map dR ∧ ∀ r ∈ l, Sm k r := by
  induction rs with
  | nil => exact ⟨[], rfl, fun _ h => (nomatch h)⟩
  | cons x rs ih =>
    obtain ⟨c, rfl, hc⟩ := h x List.mem_cons_self
    obtain ⟨cs, rfl, hcs⟩ := ih fun y hy => h y (List.mem_cons_of_mem _ hy)
    exact ⟨c :: cs, rfl, fun y hy => by
      rcases List.mem_cons.mp hy with e | hy
      · rw [e]; exact hc
      · exact hcs y hy⟩
theorem rsum_snoc (A : List Rat) (x : Rat) : rsum (A ++ [x]) = rsum A + x := by unfold rsum; rw [List.foldl_append]; rfl
theorem comp_zip {g : G} {f : Str} {j k : Nat} {s l : List Rat} {st : DS} {a b : Nat} (ht : HBin g f (· * ·)) (h1 : ∀ r ∈ s, Sm j r) (h2 : ∀ r ∈ l, Sm k r) (hj : j ≤ 4000) (hk : k ≤ 4000) (env : Env) (he : ∀ r t : Rat, lk (st1 (st1 (st1 (st1 env b none) a none) a (some (dR r))) b (some (dR t))) a = some (dR r) ∧ lk (st1 (st1 (st1 (st1 env b none) a none) a (some (dR r))) b (some (dR t))) b = some (dR t)) :
    mapR (compF g [a, b] (.tp [a, b]) .nil (.call f (.cons (.var a) (.cons (.var b) .nil))) env) (zip2 (s.map dR) (l.map dR)) st = .ok ((zipR s l).map dR) st := by
  rw [zip2_dR, ← zipR_map]
  have := mapR_map (F := compF g [a, b] (.tp [a, b]) .nil (.call f (.cons (.var a) (.cons (.var b) .nil))) env) (h := fun d => match d with | .tup [.tup [.int a, .int b], .tup [.int c, .int d]] => dR (Rat.divInt a b * Rat.divInt c d) | d => d) (st := st) (ds := (s.zip l).map fun p => .tup [dR p.1, dR p.2]) (fun d hd => by
    obtain ⟨⟨r, t⟩, hp, rfl⟩ := List.mem_map.mp hd
    have hr := (h1 r (List.of_mem_zip hp).1).mono hj
    have ht' := (h2 t (List.of_mem_zip hp).2).mono hk
    rw [comp_times ht hr ht' (he r t).1 (he r t).2]
    simp [Rat.num_divInt_den])
  rw [this, List.map_map]
  congr 2
  funext p
  simp [Rat.num_divInt_den]
def oddB : Ss := .cons (.ite (.not (.isin (.caught [6, 2] (.call ("mean" : Str) (.cons (.var 2) (.cons (.var 6) .nil)))) [.cls ("BadShares" : Str)])) (.cons (.ret (.bl false)) .nil) .nil) .nil
theorem odd_turn {g : G} (hm : HMeanSh g) (hsub : ("BadShares" : Str) ∈ g.sub "BadShares") {l : List Rat} {k : Nat} (hs : ∀ r ∈ l, Sm k r) (hk : k ≤ 4000) (h0 : l ≠ []) {v : D} {st : DS} {e0 e1 e3 e4 e5 e6 : Option D} (ha : AreV v (.int l.length) false) :
    forF g (.nm 6) oddB v ([e0, e1, some (.lst (l.map dR)), e3, e4, e5, e6], []) st = .ok (([e0, e1, some (.lst (l.map dR)), e3, e4, e5, some v], []), .nx) st := by
  simp [forF, oddB, keepE, hm k l v (.lst (l.map dR)) st (.l l) hs hk h0 ha, hsub]
theorem AreV.len {v : D} {s : List Rat} {m : Int} {k : Nat} (h : RL v s) (hs : ∀ r ∈ s, Sm k r) (hk : 1 + (k + 1) * s.length ≤ 4000) (hm : (s.length : Int) ≠ m) : AreV v (.int m) false := by
  have := AreV.rl (m := m) h hs hk
  rwa [decide_eq_false hm, Bool.false_and] at this
theorem AreV.sh {v : D} {s : List Rat} {m : Int} {k : Nat} (h : RL v s) (hs : ∀ r ∈ s, Sm k r) (hk : 1 + (k + 1) * s.length ≤ 4000) (hm : shB s = false) : AreV v (.int m) false := by
  have := AreV.rl (m := m) h hs hk
  rwa [hm, Bool.and_false] at this
end Ev
/-! Pr13: _law_means_right. -/
namespace Ev
open PySem L2
structure MR (g : G) : Prop where
  draw : HDraw g
  pick : HPick g
  shares : HShares g
  number : HNumber g
  times : HBin g "_law_times" (· * ·)
  plus : HBin g "_law_plus" (· + ·)
  sum : HSum g "_law_sum"
  same : HSame g
  mean : HMeanOk g
  meanS : HMeanSh g
  meanR : HMeanR g
  subS : ("BadShares" : Str) ∈ g.sub "BadShares"
  subR : ("BadRatios" : Str) ∈ g.sub "BadRatios"
theorem shB_sum {s : List Rat} (h : shB s = true) : rsum s = 1 := by
  unfold shB at h
  rw [Bool.and_eq_true] at h
  exact of_decide_eq_true h.2
theorem one99 : ((.tup [.int 1, .int 99] : D)) = dR (Rat.divInt 1 99) := by
  unfold dR
  rw [show (Rat.divInt 1 99).num = 1 by decide +kernel, show (Rat.divInt 1 99).den = 99 by decide +kernel]
  rfl
abbrev zD : D := .tup [.int 0, .int 1]
theorem zD_eq : zD = dR 0 := rfl
theorem means_right_ok {g : G} (M : MR g) (n : Nat) (st : DS) (h : DOk n st) (hn : n ≤ 2 ^ 38) : Ok (callB g 1 7 Pre.t_law_means_right [.drw] st) fun d st' => d = .bl true ∧ DOk (n + 50) st' := by
  have sz : ∀ k : Int, k.natAbs < 2 ^ 10 → k.natAbs < 2 ^ 8999 := fun k hk => Nat.lt_of_lt_of_le hk (Nat.pow_le_pow_right (by decide) (by decide))
  obtain ⟨x1, s1, q1, ⟨a, rfl, a0, a1⟩, h1⟩ := M.draw n 6 st h (by omega) (by decide) (sz _ (by decide))
  obtain ⟨m, hm⟩ : ∃ m : Nat, 1 + a = (m : Int) := ⟨(1 + a).toNat, by omega⟩
  obtain ⟨x2, s2, q2, ⟨s, rfl, l2, b2, m2⟩, h2⟩ := M.shares (n + 1) m s1 h1 (by omega) (by omega) (by omega)
  have hls : (s.map dR).length = m := by rw [List.length_map, l2]
  obtain ⟨rs, s3, q3, l3, m3, h3⟩ := mapR_okD (F := compF g [3] (.nm 3) .nil (.call ("_law_number" : Str) (.cons (.var 0) (.cons (.int 99) .nil))) [some .drw, some (.lst (s.map dR)), none, none, none, none, none]) (P := fun x => ∃ r : Rat, x = dR r ∧ Sm 7 r) 4 (s.map dR) (n + 1 + 3 * m) s2 h2 (by rw [hls]; omega) (fun d _ k st hk hk2 => by
    obtain ⟨x, t1, e1, ⟨r, rfl, hr⟩, h1⟩ := M.number k st hk (by omega)
    refine ⟨some (dR r), t1, ?_, ⟨_, rfl, r, rfl, hr⟩, h1⟩
    unfold compF
    simp [e1, Res.noRaise])
  obtain ⟨l, rfl, hl7⟩ := rats_of m3
  rw [List.length_map, hls] at l3
  have hl0 : l ≠ [] := fun e => by rw [e] at l3; simp at l3; omega
  have hz := comp_zip (st := s3) (a := 3) (b := 5) M.times m2 hl7 (by decide) (by decide) [some .drw, some (.lst (s.map dR)), some (.lst (l.map dR)), none, none, none, none] (fun r t => by simp)
  have hzl : (zipR s l).length ≤ 6 := by unfold zipR; simp; omega
  obtain ⟨hsum, _⟩ := M.sum 17 (zipR s l) s3 (zipR_sm m2 hl7) (by omega)
  have av : ∀ u, RL u s → AreV u (.int l.length) true := fun u hu => by
    have := AreV.rl (m := (l.length : Int)) hu m2 (by omega)
    rwa [b2, decide_eq_true (by omega), Bool.true_and] at this
  have hmean := M.mean 10 7 s l (.lst (s.map dR)) (.lst (l.map dR)) s3 (.l s l) m2 hl7 (by omega) (by decide) (by decide) (by omega) hl0 (av _ (.l s))
  have hmeanT := M.mean 10 7 s l (.tup (s.map dR)) (.tup (l.map dR)) s3 (.t s l) m2 hl7 (by omega) (by decide) (by decide) (by omega) hl0 (av _ (.t s))
  have hsame := M.same (dR (rsum (zipR s l))) s3 (dR_nodes _).1 (dR_nodes _).2
  have hne := ne_dR (rsum (zipR s l)) (rsum (zipR s l))
  -- the odd shares
  obtain ⟨A, z, hA⟩ : ∃ A z, s = A ++ [z] := by
    rcases List.eq_nil_or_concat s with e | ⟨A, z, e⟩
    · rw [e] at l2; simp at l2; omega
    · exact ⟨A, z, by rw [List.concat_eq_append] at e; exact e⟩
  have hzz : Sm 10 z := m2 z (by rw [hA]; simp)
  have hAA : ∀ r ∈ A, Sm 10 r := fun r hr => m2 r (by rw [hA]; simp [hr])
  have h99 : Sm 10 (Rat.divInt 1 99) := Sm.divInt (by decide) (by decide) (by decide)
  have hp99 := M.plus z (Rat.divInt 1 99) s3 (hzz.mono (by decide)) (h99.mono (by decide))
  have smap : s.map dR = A.map dR ++ [dR z] := by rw [hA]; simp
  have c1 : slop (some 1) none (.lst (s.map dR)) = some (.lst ((s.drop 1).map dR)) := by
    show some (D.lst (cutL _ _ _)) = _
    rw [cut_1 _ (by omega), List.map_drop]
  have c2 := bin_addL (s.map dR) [zD] (by simp; omega)
  rw [← one99] at hp99
  have c3 : slop none (some (-1)) (.lst (s.map dR)) = some (.lst (A.map dR)) := by rw [smap, cut_last]
  have c4 : ixop (.lst (s.map dR)) (.int (-1)) = some (dR z) := by rw [smap, ix_last]
  have c5 := bin_addL (A.map dR) [dR (z + Rat.divInt 1 99)] (by
    have := congrArg List.length hA
    simp at this ⊢; omega)
  have hlen : s.length = A.length + 1 := by rw [hA]; simp
  have o1 : AreV .non (.int l.length) false := .no rfl rfl rfl
  have o2 : AreV (.lst ((s.drop 1).map dR)) (.int l.length) false := AreV.len (.l (s.drop 1)) (k := 10) (fun r hr => m2 r (List.mem_of_mem_drop hr)) (by rw [List.length_drop]; omega) (by rw [List.length_drop]; omega)
  have o3 : AreV (.lst (s.map dR ++ [zD])) (.int l.length) false := by
    rw [zD_eq]
    have := AreV.len (m := (l.length : Int)) (RL.l (s ++ [0])) (k := 10) (fun r hr => by
      rcases List.mem_append.mp hr with hr | hr
      · exact m2 r hr
      · rw [List.mem_singleton.mp hr]; exact Sm.zero.mono (by decide)) (by simp; omega) (by simp; omega)
    simpa using this
  have o4 : AreV (.lst (A.map dR ++ [dR (z + Rat.divInt 1 99)])) (.int l.length) false := by
    have := AreV.sh (m := (l.length : Int)) (RL.l (A ++ [z + Rat.divInt 1 99])) (k := 21) (fun r hr => by
      rcases List.mem_append.mp hr with hr | hr
      · exact (hAA r hr).mono (by decide)
      · rw [List.mem_singleton.mp hr]; exact hzz.add h99) (by simp; omega) (by
      unfold shB
      have e1 := shB_sum b2
      rw [hA, rsum_snoc] at e1
      have e2 : rsum (A ++ [z + Rat.divInt 1 99]) ≠ 1 := by
        rw [rsum_snoc]
        intro e3
        have e4 : Rat.divInt 1 99 = 0 := by grind
        exact absurd e4 (by decide +kernel)
      rw [decide_eq_false e2, Bool.and_false])
    simpa using this
  have o5 : AreV (.lst [.tup [.int 2, .int 1], .tup [.int (-1), .int 1]]) (.int l.length) false := by
    have := AreV.sh (m := (l.length : Int)) (RL.l [2, -1]) (k := 10) (fun r hr => by
      simp only [List.mem_cons, List.not_mem_nil, or_false] at hr
      rcases hr with rfl | rfl
      · exact ⟨by decide, by decide⟩
      · exact ⟨by decide, by decide⟩) (by decide) (by decide +kernel)
    exact this
  have lp : ∀ e3 e4 e5, foldF (forF g (.nm 6) oddB) [.non, .lst ((s.drop 1).map dR), .lst (s.map dR ++ [zD]), .lst (A.map dR ++ [dR (z + Rat.divInt 1 99)]), .lst [.tup [.int 2, .int 1], .tup [.int (-1), .int 1]]] ([some .drw, some (.lst (s.map dR)), some (.lst (l.map dR)), e3, e4, e5, none], []) s3 =
      .ok (([some .drw, some (.lst (s.map dR)), some (.lst (l.map dR)), e3, e4, e5, some (.lst [.tup [.int 2, .int 1], .tup [.int (-1), .int 1]])], []), .nx) s3 := fun e3 e4 e5 => by
    have t := fun v (ha : AreV v (.int l.length) false) e6 => odd_turn M.meanS M.subS hl7 (by decide) hl0 (st := s3) (e0 := some .drw) (e1 := some (.lst (s.map dR))) (e3 := e3) (e4 := e4) (e5 := e5) (e6 := e6) ha
    rw [foldF_cons, t _ o1, Res.bind_ok]
    show foldF _ _ _ _ = _
    rw [foldF_cons, t _ o2, Res.bind_ok]
    show foldF _ _ _ _ = _
    rw [foldF_cons, t _ o3, Res.bind_ok]
    show foldF _ _ _ _ = _
    rw [foldF_cons, t _ o4, Res.bind_ok]
    show foldF _ _ _ _ = _
    rw [foldF_cons, t _ o5, Res.bind_ok]
    rfl
  -- the wrong ratios
  obtain ⟨x5, s5, q5, m5, h5⟩ := M.pick (n + 1 + 3 * m + 4 * (s.map dR).length) [.non, .lst [], .lst [.non], .lst [.tup [.int 2, .int 4]], .dK []] s3 h3 (by rw [hls]; omega) (by simp) (by decide)
  have hbad : BadR x5 := by
    simp only [List.mem_cons, List.not_mem_nil, or_false] at m5
    rcases m5 with rfl | rfl | rfl | rfl | rfl
    · exact .no rfl rfl rfl
    · exact .nil
    · exact .one ⟨rfl, fun ds e => by cases e⟩ rfl
    · exact .one (okR_tt (sz _ (by decide))) (by decide)
    · exact .no rfl rfl rfl
  have hmr := M.meanR x5 .non s5 hbad
  have subR := M.subR
  simp only [oddB, List.drop_one, List.map_tail] at lp
  refine ⟨.bl true, s5, ?_, rfl, h5.mono (by rw [hls]; omega)⟩
  simp [-foldF_cons, Pre.t_law_means_right, env0, q1, hm, q2, q3, hz, hsum, hmean, hmeanT, hsame, hne, hp99, c1, c2, c3, c4, c5, lp, q5, hmr, subR, keepE]
end Ev
/-! Lv_k00: what the defs of the text do, level by level. -/
namespace K00
open PySem L2 Ev
noncomputable abbrev gt (n : Nat) : G := gAt tbl n
section
variable (n : Nat)
theorem gl_ZERO : (gt n).glob "ZERO" = some (dR 0) := by rw [gAt_glob]; rfl
theorem gl_ONE : (gt n).glob "ONE" = some (dR 1) := by rw [gAt_glob]; rfl
theorem gl_LET : (gt n).glob "LETTERS" = some (.str abc) := by rw [gAt_glob]; rfl
-- level 1
theorem l1_whole : HWhole (gt (n + 1)) := fun d st h => is_whole_ok (gt n) d st h
theorem l1_low : HLow (gt (n + 1)) "lowest" := fun a b st h1 h2 => lowest_ok (gt n) a b st h1 h2
theorem l1_q : HLow (gt (n + 1)) "_law_q" := fun a b st h1 h2 => law_q_ok (gt n) a b st h1 h2
theorem l1_truth : HTruth (gt (n + 1)) := fun a b st => law_is_truth_ok (gt n) a b st
theorem l1_blend : HBlend (gt (n + 1)) := fun m st h hn => law_blended_ok (gt n) m st h hn
theorem l1_less : HLess (gt (n + 1)) "is_less" := fun r s st h1 h2 => is_less_ok h1 h2
theorem l1_lless : HLess (gt (n + 1)) "_law_less" := fun r s st h1 h2 => law_less_ok h1 h2
theorem l1_word (s : Str) (st : DS) (h : s.length ≤ 1000000) : (gt (n + 1)).call "is_word" [.str s] st = .ok (.bl (isWd s)) st := is_word_ok (gl_LET n) h
theorem l1_wordN (v : D) (st : DS) (h1 : ty1 v = true) (h2 : tyD v .str = false) : (gt (n + 1)).call "is_word" [v] st = .ok (.bl false) st := is_word_no h1 h2
theorem l1_lword (s : Str) (st : DS) (h : s.length ≤ 1000000) (ho : PyData.strOk s = true) : (gt (n + 1)).call "_law_is_word" [.str s] st = .ok (.bl (isWd s)) st := law_is_word_ok h ho
theorem l1_lwordN (v : D) (st : DS) (h1 : ty1 v = true) (h2 : tyD v .str = false) : (gt (n + 1)).call "_law_is_word" [v] st = .ok (.bl false) st := law_is_word_no h1 h2
-- level 2
theorem l2_rat : HRat (gt (n + 2)) "is_ratio" := fun v st h => is_ratio_ok (gt (n + 1)) (l1_whole n) v st h
theorem l2_lrat : HRat (gt (n + 2)) "_law_is_ratio" := fun v st h => law_is_ratio_ok (gt (n + 1)) (l1_q n) v st h
theorem l2_plus : HBin (gt (n + 2)) "plus" (· + ·) := fun r s st h1 h2 => plus_ok (l1_low n) h1 h2
theorem l2_times : HBin (gt (n + 2)) "times" (· * ·) := fun r s st h1 h2 => times_ok (l1_low n) h1 h2
theorem l2_lplus : HBin (gt (n + 2)) "_law_plus" (· + ·) := fun r s st h1 h2 => law_plus_ok (l1_q n) h1 h2
theorem l2_ltimes : HBin (gt (n + 2)) "_law_times" (· * ·) := fun r s st h1 h2 => law_times_ok (l1_q n) h1 h2
theorem l2_lover : HOver (gt (n + 2)) "_law_over" := fun r s st h1 h2 h0 => law_over_ok (l1_q n) h1 h2 h0
theorem l2_draw : HDraw (gt (n + 2)) := fun m room st h h1 h2 h3 => law_draw_ok (gt (n + 1)) (l1_blend n) m room st h h1 h2 h3
theorem l2_same : HSame (gt (n + 2)) := fun x st h1 h2 => law_same_ok (gt (n + 1)) (l1_truth n) x st h1 h2
theorem l2_ratio (a d : Int) (st : DS) (hd : d ≠ 0) (h : d.natAbs < 2 ^ 8999) : (gt (n + 2)).call "ratio" [.int a, .int d] st = .ok (dR (Rat.divInt a d)) st := ratio_ok (l1_whole n) (l1_low n) hd h
theorem l2_ratioN (x d : D) (st : DS) (hx : ty1 x = true) (h : isW x = false) : (gt (n + 2)).call "ratio" [x, d] st = .raise "BadNumber" [.str "n"] st := ratio_n (l1_whole n) hx h
theorem l2_ratioD (a : Int) (x : D) (st : DS) (hx : ty1 x = true) (h : isW x = false ∨ x = .int 0) : (gt (n + 2)).call "ratio" [.int a, x] st = .raise "BadNumber" [.str "d"] st := ratio_d (l1_whole n) hx h
-- level 3
theorem l3_ch : HCh (gt (n + 3)) "is_chance" := fun v st h => is_chance_ok (gt (n + 2)) (l2_rat n) v st h
theorem l3_total : HSum (gt (n + 3)) "total" := fun k l st h hk => total_ok (l2_plus n) (gl_ZERO (n + 2)) h hk
theorem l3_sum : HSum (gt (n + 3)) "_law_sum" := fun k l st h hk => law_sum_ok (l2_lplus n) h hk
theorem l3_pick : HPick (gt (n + 3)) := fun m ds st h h1 h2 h3 => law_pick_ok (gt (n + 2)) (l2_draw n) m ds st h h1 h2 h3
theorem l3_below (r s : Rat) (st : DS) (h1 : Sm 4000 r) (h2 : Sm 4000 s) : (gt (n + 3)).call "is_below" [dR r, dR s] st = .ok (.bl (decide (r < s))) st := is_below_ok (l2_rat n) (l1_less (n + 1)) h1 h2
theorem l3_belowN (x y : D) (st : DS) (h1 : okR x) (h2 : okR y) (h : isRat x = false ∨ isRat y = false) : (gt (n + 3)).call "is_below" [x, y] st = .raise "BadRatio" [] st := is_below_bad (l2_rat n) h1 h2 h
-- level 4
theorem l4_are : HAre (gt (n + 4)) := fun v x b st a => by
  cases a with
  | rl h1 h2 h3 => exact are_shares_ok h1 (l3_ch n) (l3_total n) (gl_ONE (n + 3)) h2 h3
  | no h1 h2 h3 => exact are_shares_no h1 h2 h3
theorem l4_weights : HWeights (gt (n + 4)) := fun m k st h h1 h2 h3 => law_weights_ok (l2_draw (n + 1)) (l3_pick n) m k st h h1 h2 h3
theorem l4_number : HNumber (gt (n + 4)) := fun m st h h1 => law_number_ok (l2_draw (n + 1)) (l3_pick n) (l1_q (n + 2)) m st h h1
theorem l4_words (m : Nat) (st : DS) (h : DOk m st) (hn : m ≤ 2 ^ 39) : Ok ((gt (n + 4)).call "_law_words" [.drw, .int 1] st) fun d st' => (∃ w, d = .lst [.str w] ∧ isWd w = true) ∧ DOk (m + 9) st' := law_words_ok (l2_draw (n + 1)) (l3_pick n) m st h hn
theorem l4_mean_of {j k : Nat} {s l : List Rat} {u v : D} {st : DS} (hv : RL2 u v s l) (h1 : ∀ r ∈ s, Sm j r) (h2 : ∀ r ∈ l, Sm k r) (hl : s.length = l.length) (hj : j ≤ 4000) (hk : k ≤ 4000) (hz : 1 + (j + k + 1) * s.length ≤ 4000) :
    (gt (n + 4)).call "mean_of" [v, u] st = .ok (dR (rsum (zipR s l))) st := mean_of_ok hv (l2_times (n + 1)) (l3_total n) h1 h2 hl hj hk hz
-- level 5
theorem l5_need : HNeed (gt (n + 5)) := fun v x b st a => need_shares_ok (l4_are n) a
theorem l5_shares : HShares (gt (n + 5)) := fun m k st h h1 h2 h3 => law_shares_ok (l4_weights n) (l1_q (n + 3)) m k st h h1 h2 h3
-- level 6
theorem l6_mean : HMeanOk (gt (n + 6)) := fun j k s l u v st hv h1 h2 hl hj hk hz h0 ha => mean_ok hv (l2_rat (n + 3)) (l5_need n) h2 hk h0 ha (l4_mean_of (n + 1) hv h1 h2 hl hj hk hz)
theorem l6_meanS : HMeanSh (gt (n + 6)) := fun k l u v st hv hs hk h0 ha => mean_bad_shares hv (l2_rat (n + 3)) (l5_need n) hs hk h0 ha
theorem l6_meanR : HMeanR (gt (n + 6)) := fun v u st h => mean_bad_ratios (l2_rat (n + 3)) h
theorem sub_S : ("BadShares" : Str) ∈ (gt n).sub "BadShares" := by rw [gAt_sub]; decide +kernel
theorem sub_R : ("BadRatios" : Str) ∈ (gt n).sub "BadRatios" := by rw [gAt_sub]; decide +kernel
theorem mr : MR (gt (n + 6)) := ⟨l2_draw (n + 4), l3_pick (n + 3), l5_shares (n + 1), l4_number (n + 2), l2_ltimes (n + 4), l2_lplus (n + 4), l3_sum (n + 3), l2_same (n + 4), l6_mean n, l6_meanS n, l6_meanR n, sub_S (n + 6), sub_R (n + 6)⟩
-- level 7
theorem l7_means (m : Nat) (st : DS) (h : DOk m st) (hn : m ≤ 2 ^ 38) : Ok ((gt (n + 7)).call "_law_means_right" [.drw] st) fun d st' => d = .bl true ∧ DOk (m + 50) st' := means_right_ok (mr n) m st h hn
end
end K00
/-! Mn1: the law's own def: parts of a turn. -/
namespace K00
open PySem L2 Ev
noncomputable abbrev gl : G := G.cl (gt 12)
theorem cl_of {x : Str} {ds : List D} {st : DS} {r : Res D} (h : noClos ds = true) (e : (gt 12).call x ds st = r) : gl.call x ds st = r := (if_pos h).trans e
theorem c_q (a b : Int) (st : DS) (h1 : b ≠ 0) (h2 : b.natAbs < 2 ^ 8999) : gl.call "_law_q" [.int a, .int b] st = .ok (dR (Rat.divInt a b)) st := cl_of rfl (l1_q 11 a b st h1 h2)
theorem c_truth (a b : Bool) (st : DS) : gl.call "_law_is_truth" [.bl a, .bl b] st = .ok (.bl (a == b)) st := cl_of rfl (l1_truth 11 a b st)
theorem c_less (r s : Rat) (st : DS) (h1 : Sm 4000 r) (h2 : Sm 4000 s) : gl.call "_law_less" [dR r, dR s] st = .ok (.bl (decide (r < s))) st := cl_of rfl (l1_lless 11 r s st h1 h2)
theorem c_below (r s : Rat) (st : DS) (h1 : Sm 4000 r) (h2 : Sm 4000 s) : gl.call "is_below" [dR r, dR s] st = .ok (.bl (decide (r < s))) st := cl_of rfl (l3_below 9 r s st h1 h2)
theorem c_lplus (r s : Rat) (st : DS) (h1 : Sm 4000 r) (h2 : Sm 4000 s) : gl.call "_law_plus" [dR r, dR s] st = .ok (dR (r + s)) st := cl_of rfl (l2_lplus 10 r s st h1 h2)
theorem c_over (r s : Rat) (st : DS) (h1 : Sm 4000 r) (h2 : Sm 4000 s) (h0 : s ≠ 0) : gl.call "_law_over" [dR r, dR s] st = .ok (dR (r / s)) st := cl_of rfl (l2_lover 10 r s st h1 h2 h0)
theorem c_draw : HDraw gl := fun n room st h h1 h2 h3 => (l2_draw 10 n room st h h1 h2 h3).eq (cl_of rfl rfl)
theorem c_number (n : Nat) (st : DS) (h : DOk n st) (h1 : n + 4 ≤ 2 ^ 40) : Ok (gl.call "_law_number" [.drw, .int 99] st) fun d st' => (∃ r : Rat, d = dR r ∧ Sm 7 r) ∧ DOk (n + 4) st' := (l4_number 8 n st h h1).eq (cl_of rfl rfl)
theorem c_words (m : Nat) (st : DS) (h : DOk m st) (hn : m ≤ 2 ^ 39) : Ok (gl.call "_law_words" [.drw, .int 1] st) fun d st' => (∃ w, d = .lst [.str w] ∧ isWd w = true) ∧ DOk (m + 9) st' := (l4_words 8 m st h hn).eq (cl_of rfl rfl)
theorem c_means (m : Nat) (st : DS) (h : DOk m st) (hn : m ≤ 2 ^ 38) : Ok (gl.call "_law_means_right" [.drw] st) fun d st' => d = .bl true ∧ DOk (m + 50) st' := (l7_means 5 m st h hn).eq (cl_of rfl rfl)
theorem c_pick (n : Nat) (ds : List D) (st : DS) (hc : noClos ds = true) (h : DOk n st) (h1 : n ≤ 2 ^ 40) (h2 : ds ≠ []) (h3 : ds.length ≤ 1000000) : Ok (gl.call "_law_pick" [.drw, .lst ds] st) fun d st' => d ∈ ds ∧ DOk (n + 1) st' :=
  (l3_pick 9 n ds st h h1 h2 h3).eq (cl_of (by simp only [noClos, noClo, hc]; rfl) rfl)
theorem c_rat (v : D) (st : DS) (hc : noClo v = true) (h : okR v) : gl.call "is_ratio" [v] st = .ok (.bl (isRat v)) st := cl_of (by simp only [noClos, hc]; rfl) (l2_rat 10 v st h)
theorem c_lrat (v : D) (st : DS) (hc : noClo v = true) (h : okR v) : gl.call "_law_is_ratio" [v] st = .ok (.bl (isRat v)) st := cl_of (by simp only [noClos, hc]; rfl) (l2_lrat 10 v st h)
theorem c_ch (v : D) (st : DS) (hc : noClo v = true) (h : okR v) : gl.call "is_chance" [v] st = .ok (.bl (isCh v)) st := cl_of (by simp only [noClos, hc]; rfl) (l3_ch 9 v st h)
theorem c_same (r : Rat) (st : DS) : gl.call "_law_same" [dR r, dR r] st = .ok (.bl true) st := cl_of rfl (l2_same 10 (dR r) st (dR_nodes r).1 (dR_nodes r).2)
theorem c_ratio (a d : Int) (st : DS) (hd : d ≠ 0) (h : d.natAbs < 2 ^ 8999) : gl.call "ratio" [.int a, .int d] st = .ok (dR (Rat.divInt a d)) st := cl_of rfl (l2_ratio 10 a d st hd h)
/-- one value is judged -/
def valB : Ss := .cons (.asg (.nm 9) false (.call ("_law_is_ratio" : Str) (.cons (.var 8) .nil)))
  (.cons (.asg (.nm 10) false (.and (.bor 9) (.cmp2 .le .le (.int 0) (.ix (.bor 8) (.int 0)) (.ix (.bor 8) (.int 1)))))
  (.cons (.ite (.or (.not (.call ("_law_is_truth" : Str) (.cons (.call ("is_ratio" : Str) (.cons (.var 8) .nil)) (.cons (.var 9) .nil)))) (.not (.call ("_law_is_truth" : Str) (.cons (.call ("is_chance" : Str) (.cons (.var 8) .nil)) (.cons (.var 10) .nil))))) (.cons (.ret (.bl false)) .nil) .nil)
  (.cons (.ite (.or (.cmp .ne (.callk ("is_ratio" : Str) .nil (.cons (.var 8) .nil) [0]) (.bor 9)) (.cmp .ne (.callk ("is_chance" : Str) .nil (.cons (.var 8) .nil) [0]) (.bor 10))) (.cons (.ret (.bl false)) .nil) .nil)
  .nil)))
theorem ne_bb (b : Bool) : cmpop .ne (.bl b) (.bl b) = some false := by
  rw [cmp_ne _ _ (by simp) (by simp)]; simp
theorem val_turn (v : D) (st : DS) (hc : noClo v = true) (h : okR v) (e0 e1 e2 e3 e4 e5 e6 e7 e8 e9 e10 e11 e12 e13 e14 : Option D) :
    forF gl (.nm 8) valB v ([e0, e1, e2, e3, e4, e5, e6, e7, e8, e9, e10, e11, e12, e13, e14], []) st = .ok (([e0, e1, e2, e3, e4, e5, e6, e7, some v, some (.bl (isRat v)), some (.bl (isCh v)), e11, e12, e13, e14], []), .nx) st := by
  have h1 := c_rat v st hc h
  have h2 := c_lrat v st hc h
  have h3 := c_ch v st hc h
  have h4 := fun b => c_truth b b st
  by_cases hr : isRat v = true
  · obtain ⟨n, d, rfl⟩ := isRat_shape hr
    have hch : isCh (.tup [.int n, .int d]) = (decide (0 ≤ n) && decide (n ≤ d)) := by show (isRat (.tup [.int n, .int d]) && (decide (0 ≤ n) && decide (n ≤ d))) = _; rw [hr]; rfl
    rw [hr] at h1 h2 ⊢
    rw [hch] at h3 ⊢
    by_cases hn : 0 ≤ n
    · simp [forF, valB, h1, h2, h3, h4, hn, ne_bb]
    · simp [forF, valB, h1, h2, h3, h4, hn, ne_bb]
  · have hr : isRat v = false := by simpa using hr
    have hch := isCh_f hr
    rw [hr] at h1 h2 ⊢
    rw [hch] at h3 ⊢
    simp [forF, valB, h1, h2, h3, h4, ne_bb]
/-- one word is judged -/
def wrdB : Ss := .cons (.ite (.or (.not (.call ("_law_is_truth" : Str) (.cons (.call ("is_word" : Str) (.cons (.var 8) .nil)) (.cons (.call ("_law_is_word" : Str) (.cons (.var 8) .nil)) .nil)))) (.cmp .ne (.callk ("is_word" : Str) .nil (.cons (.var 8) .nil) [0]) (.call ("_law_is_word" : Str) (.cons (.var 8) .nil)))) (.cons (.ret (.bl false)) .nil) .nil) .nil
def okW (v : D) : Prop := (∃ s : Str, v = .str s ∧ s.length ≤ 1000000 ∧ PyData.strOk s = true) ∨ (ty1 v = true ∧ tyD v .str = false ∧ noClo v = true)
theorem wrd_turn (v : D) (st : DS) (h : okW v) (e0 e1 e2 e3 e4 e5 e6 e7 e8 e9 e10 e11 e12 e13 e14 : Option D) :
    forF gl (.nm 8) wrdB v ([e0, e1, e2, e3, e4, e5, e6, e7, e8, e9, e10, e11, e12, e13, e14], []) st = .ok (([e0, e1, e2, e3, e4, e5, e6, e7, some v, e9, e10, e11, e12, e13, e14], []), .nx) st := by
  have key : ∃ b, gl.call "is_word" [v] st = .ok (.bl b) st ∧ gl.call "_law_is_word" [v] st = .ok (.bl b) st := by
    rcases h with ⟨s, rfl, h1, h2⟩ | ⟨h1, h2, h3⟩
    · exact ⟨isWd s, cl_of rfl (l1_word 11 s st h1), cl_of rfl (l1_lword 11 s st h1 h2)⟩
    · exact ⟨false, cl_of (by simp only [noClos, h3]; rfl) (l1_wordN 11 v st h1 h2), cl_of (by simp only [noClos, h3]; rfl) (l1_lwordN 11 v st h1 h2)⟩
  obtain ⟨b, h1, h2⟩ := key
  simp [forF, wrdB, h1, h2, c_truth b b st, ne_bb]
end K00
/-! Mn0: words in capitals, words many times. -/
namespace Ev
open PySem L2
theorem up_lt : ∀ c ∈ List.range' 97 26, Unicode.upperOf c = [c - 32] := by decide +kernel
theorem placed_list (x : Str) (f : Nat → Nat → List Nat) : (placed x f).toList = (x.cps.toList.mapIdx fun i c => f i c).flatten := by
  unfold placed
  simp
  congr 1
  apply List.ext_getElem
  · simp
  · intro i h1 h2
    simp
theorem upper_wd {s : Str} (h : s.cps.toList.all isLt = true) : (Txt.upper s).cps.toList = s.cps.toList.map (· - 32) := by
  show (placed s _).toList = _
  rw [placed_list]
  generalize s.cps.toList = l at h
  have : (l.mapIdx fun _ c => Unicode.upperOf c) = l.map fun c => [c - 32] := by
    apply List.ext_getElem
    · simp
    · intro i h1 h2
      simp
      have hi : i < l.length := by simpa using h2
      have hm := List.all_eq_true.mp h l[i] (List.getElem_mem hi)
      exact up_lt _ (List.mem_range'_1.mpr (by simp [isLt] at hm; omega))
  rw [this]
  clear this h
  induction l with
  | nil => rfl
  | cons c r ih => simp [ih]
theorem strOk_all {s : Str} (h : ∀ c ∈ s.cps.toList, c < 0x110000) : PyData.strOk s = true := by
  unfold PyData.strOk
  rw [← Array.all_toList, List.all_eq_true]
  intro c hc; simpa using h c hc
theorem wd_lt {s : Str} (h : isWd s = true) : s.cps.toList.all isLt = true ∧ s.length ≤ 8 := by
  unfold isWd at h
  simp only [Bool.and_eq_true, decide_eq_true_eq] at h
  exact ⟨h.2, h.1.2⟩
theorem len_cps (s : Str) : s.length = s.cps.toList.length := by simp [Str.length]
theorem mul_wd {s : Str} (h : isWd s = true) (k : Nat) (hk : k ≤ 9) : (Txt.mul s k).length ≤ 100 ∧ ∀ c ∈ (Txt.mul s k).cps.toList, c < 0x110000 := by
  obtain ⟨h1, h2⟩ := wd_lt h
  have hs : ∀ c ∈ s.cps.toList, c < 0x110000 := fun c hc => by
    have := List.all_eq_true.mp h1 c hc
    simp [isLt] at this; omega
  unfold Txt.mul
  split
  · exact ⟨by decide, by decide⟩
  · split
    · exact ⟨by omega, hs⟩
    · have key : ∀ (m : Nat) (a : Array Nat), ((List.replicate m s.cps).foldl (· ++ ·) a).toList.length = a.toList.length + m * s.length ∧ ((∀ c ∈ a.toList, c < 0x110000) → ∀ c ∈ ((List.replicate m s.cps).foldl (· ++ ·) a).toList, c < 0x110000) := by
        intro m
        induction m with
        | zero => intro a; exact ⟨by simp, fun h => h⟩
        | succ m ih =>
          intro a
          rw [List.replicate_succ, List.foldl_cons]
          refine ⟨?_, fun ha => (ih _).2 fun c hc => ?_⟩
          · rw [(ih _).1, Nat.succ_mul, len_cps]
            simp; omega
          · simp at hc
            rcases hc with hc | hc
            · exact ha c (by simpa using hc)
            · exact hs c (by simpa using hc)
      obtain ⟨k1, k2⟩ := key (k : Int).toNat #[]
      refine ⟨?_, k2 (by simp)⟩
      rw [len_cps, k1]
      have : (k : Int).toNat * s.length ≤ 9 * 8 := Nat.mul_le_mul (by omega) h2
      simp only [List.length_nil, Nat.zero_add]; omega
end Ev
/-! Mn2: a turn of the law. -/
namespace K00
open PySem L2 Ev
def tinyB : Ss := (.cons (.asg (.nm 2) false (.call ("_law_over" : Str) (.cons (.var 2) (.cons (.tup (.cons (.bin .pow (.int 10) (.int 50)) (.cons (.int 1) .nil))) .nil)))) .nil)
def s0 : S := (.par 5 6 (.bin .sub (.call ("_law_draw" : Str) (.cons (.var 1) (.cons (.bin .pow (.int 10) (.int 20)) .nil))) (.bin .pow (.int 10) (.int 19))) (.bin .add (.int 1) (.call ("_law_draw" : Str) (.cons (.var 1) (.cons (.call ("_law_pick" : Str) (.cons (.var 1) (.cons (.lst (.cons (.int 9) (.cons (.bin .pow (.int 10) (.int 20)) .nil))) .nil))) .nil)))))
def s1 : S := (.asg (.nm 7) false (.call ("_law_q" : Str) (.cons (.bin .add (.int 1) (.call ("_law_draw" : Str) (.cons (.var 1) (.cons (.int 9) .nil)))) (.cons (.int 10) .nil))))
def s2 : S := (.for_ (.nm 8) (.e (.lst (.cons (.call ("_law_q" : Str) (.cons (.var 5) (.cons (.var 6) .nil))) (.cons (.var 7) (.cons (.tup (.cons (.var 5) (.cons (.var 6) .nil))) (.cons (.tup (.cons (.bin .mul (.bor 5) (.int 6)) (.cons (.bin .mul (.bor 6) (.int 6)) .nil))) (.cons (.tup (.cons (.var 5) (.cons (.bin .sub (.int 0) (.bor 6)) .nil))) (.cons (.lst (.cons (.var 5) (.cons (.var 6) .nil))) (.cons (.tup (.cons (.var 5) .nil)) (.cons (.tup (.cons (.bl true) (.cons (.int 1) .nil))) (.cons (.tup (.cons (.int 0) (.cons (.int 2) .nil))) (.cons (.tup (.cons (.int 1) (.cons (.int 0) .nil))) (.cons .non (.cons (.var 5) (.cons (.tup (.cons (.int 0) (.cons (.int 1) .nil))) (.cons (.tup (.cons (.int 1) (.cons (.int 1) .nil))) (.cons (.tup (.cons (.int 1) (.cons (.int 2) .nil))) (.cons (.tup (.cons (.int 3) (.cons (.int 2) .nil))) .nil)))))))))))))))))) valB)
def s3 : S := (.ite (.or (.not (.call ("_law_same" : Str) (.cons (.call ("ratio" : Str) (.cons (.var 5) (.cons (.var 6) .nil))) (.cons (.call ("_law_q" : Str) (.cons (.var 5) (.cons (.var 6) .nil))) .nil)))) (.cmp .ne (.callk ("ratio" : Str) .nil (.cons (.bin .sub (.int 0) (.bor 6)) (.cons (.var 5) .nil)) [1, 0]) (.call ("_law_q" : Str) (.cons (.bin .sub (.int 0) (.bor 5)) (.cons (.var 6) .nil))))) (.cons (.ret (.bl false)) .nil) .nil)
def s4 : S := (.asg (.nm 11) false (.call ("_law_number" : Str) (.cons (.var 1) (.cons (.int 99) .nil))))
def s5 : S := (.ite (.or (.not (.call ("_law_is_truth" : Str) (.cons (.call ("is_below" : Str) (.cons (.call ("_law_q" : Str) (.cons (.var 5) (.cons (.var 6) .nil))) (.cons (.var 11) .nil))) (.cons (.call ("_law_less" : Str) (.cons (.call ("_law_q" : Str) (.cons (.var 5) (.cons (.var 6) .nil))) (.cons (.var 11) .nil))) .nil)))) (.cmp .isnot (.callk ("is_below" : Str) .nil (.cons (.var 11) (.cons (.var 11) .nil)) [1, 0]) (.bl false))) (.cons (.ret (.bl false)) .nil) .nil)
def s6 : S := (.asg (.nm 12) false (.ix (.call ("_law_words" : Str) (.cons (.var 1) (.cons (.int 1) .nil))) (.int 0)))
def s7 : S := (.for_ (.nm 8) (.e (.lst (.cons (.var 12) (.cons (.bin .add (.bor 12) (.str ("A" : Str))) (.cons (.bin .mul (.bor 12) (.int 9)) (.cons (.str ("" : Str)) (.cons (.tup (.cons (.var 12) .nil)) (.cons .non (.cons (.upper (.bor 12)) .nil))))))))) wrdB)
def s8 : S := (.ite (.not (.call ("_law_means_right" : Str) (.cons (.var 1) .nil))) (.cons (.ret (.bl false)) .nil) .nil)
def s9 : S := (.asg (.nm 13) false (.caught [1] (.call ("ratio" : Str) (.cons (.call ("_law_pick" : Str) (.cons (.var 1) (.cons (.lst (.cons .non (.cons (.bl true) (.cons (.str ("1" : Str)) .nil)))) .nil))) (.cons (.int 0) .nil)))))
def s10 : S := (.ite (.or (.not (.isin (.bor 13) [.cls ("BadNumber" : Str)])) (.cmp .ne (.fld (.bor 13) ("part" : Str)) (.str ("n" : Str)))) (.cons (.ret (.bl false)) .nil) .nil)
def s11 : S := (.asg (.nm 13) false (.caught [1] (.call ("ratio" : Str) (.cons (.int 1) (.cons (.call ("_law_pick" : Str) (.cons (.var 1) (.cons (.lst (.cons (.int 0) (.cons .non (.cons (.bl false) .nil)))) .nil))) .nil)))))
def s12 : S := (.ite (.or (.not (.isin (.bor 13) [.cls ("BadNumber" : Str)])) (.cmp .ne (.fld (.bor 13) ("part" : Str)) (.str ("d" : Str)))) (.cons (.ret (.bl false)) .nil) .nil)
def lamB : Ss := (.cons (.ite (.not (.isin (.cgv 14 []) [.cls ("BadRatio" : Str)])) (.cons (.ret (.bl false)) .nil) .nil) .nil)
def s13 : S := (.for_ (.nm 14) (.e (.lst (.cons (.lam (.call ("is_below" : Str) (.cons .non (.cons (.tup (.cons (.int 1) (.cons (.int 1) .nil))) .nil))) []) (.cons (.lam (.call ("is_below" : Str) (.cons (.tup (.cons (.int 1) (.cons (.int 1) .nil))) (.cons (.tup (.cons (.int 2) (.cons (.int 2) .nil))) .nil))) []) .nil)))) lamB)
def turnB : Ss := (.cons s0 (.cons s1 (.cons s2 (.cons s3 (.cons s4 (.cons s5 (.cons s6 (.cons s7 (.cons s8 (.cons s9 (.cons s10 (.cons s11 (.cons s12 (.cons s13 .nil))))))))))))))
def okB : S := (.ite (.or (.cmp .isnot (.call ("is_below" : Str) (.cons (.var 2) (.cons (.call ("_law_plus" : Str) (.cons (.var 2) (.cons (.var 2) .nil))) .nil))) (.bl true)) (.or (.cmp .isnot (.call ("is_below" : Str) (.cons (.tup (.cons (.int 0) (.cons (.int 1) .nil))) (.cons (.var 2) .nil))) (.bl true)) (.cmp .ne (.call ("mean" : Str) (.cons (.lst (.cons (.var 2) (.cons (.tup (.cons (.int 0) (.cons (.int 1) .nil))) .nil))) (.cons (.lst (.cons (.tup (.cons (.int 1) (.cons (.int 2) .nil))) (.cons (.tup (.cons (.int 1) (.cons (.int 2) .nil))) .nil))) .nil))) (.call ("_law_over" : Str) (.cons (.var 2) (.cons (.tup (.cons (.int 2) (.cons (.int 1) .nil))) .nil)))))) (.cons (.ret (.bl false)) .nil) .nil)
theorem law_eq : t_law = (.cons (.asg (.nm 2) false (.tup (.cons (.int 1) (.cons (.int 1) .nil)))) (.cons (.for_ (.nm 3) (.range1 (.int 8)) tinyB) (.cons okB (.cons (.for_ (.nm 4) (.range1 (.bin .add (.int 2) (.min2 (.b1 .len (.bor 0)) (.int 5)))) turnB) (.cons (.ret (.bl true)) .nil))))) := rfl
theorem p20 : binop .pow (.int 10) (.int 20) = some (.int 100000000000000000000) := rfl
theorem p19 : binop .pow (.int 10) (.int 19) = some (.int 10000000000000000000) := rfl
theorem c_ratioN (x d : D) (st : DS) (hx : ty1 x = true) (h : isW x = false) (h1 : noClos [x, d] = true) : gl.call "ratio" [x, d] st = .raise "BadNumber" [.str "n"] st := cl_of h1 (l2_ratioN 10 x d st hx h)
theorem c_ratioD (a : Int) (x : D) (st : DS) (hx : ty1 x = true) (h : isW x = false ∨ x = .int 0) (h1 : noClos [.int a, x] = true) : gl.call "ratio" [.int a, x] st = .raise "BadNumber" [.str "d"] st := cl_of h1 (l2_ratioD 10 a x st hx h)
theorem c_belowN (x y : D) (st : DS) (h1 : okR x) (h2 : okR y) (h : isRat x = false ∨ isRat y = false) (h3 : noClos [x, y] = true) : gl.call "is_below" [x, y] st = .raise "BadRatio" [] st := cl_of h3 (l3_belowN 9 x y st h1 h2 h)
theorem sub_N : ("BadNumber" : Str) ∈ gl.sub "BadNumber" := by show ("BadNumber" : Str) ∈ (gt 12).sub ("BadNumber" : Str); rw [gAt_sub]; decide +kernel
theorem sub_Q : ("BadRatio" : Str) ∈ gl.sub "BadRatio" := by show ("BadRatio" : Str) ∈ (gt 12).sub ("BadRatio" : Str); rw [gAt_sub]; decide +kernel
theorem fl_N : gl.fields "BadNumber" = [("part" : Str)] := by show (gt 12).fields ("BadNumber" : Str) = _; rw [gAt_fields]; rfl
theorem fld_N (x : Str) : fldD gl (.exc "BadNumber" [.str x]) "part" = some (.str x) := by
  show ((gl.fields "BadNumber").zip [D.str x]).lookup ("part" : Str) = _
  rw [fl_N]; rfl
theorem ne_ss (x : Str) (h : PyData.strOk x = true) : cmpop .ne (.str x) (.str x) = some false := by
  rw [cmp_ne _ _ (by simpa using h) (by simpa using h)]
  have : eqD (.str x) (.str x) = true := by simp [eqD]
  rw [this]; rfl
theorem sz {k : Int} (h : k.natAbs < 2 ^ 100) : k.natAbs < 2 ^ 8999 := Nat.lt_of_lt_of_le h (Nat.pow_le_pow_right (by decide) (by decide))
theorem okR_1 (v : D) (h : ty1 v = true) (h2 : ∀ ds, v ≠ .tup ds) : okR v := ⟨h, fun ds e => absurd e (h2 ds)⟩
theorem lam_1 (env : Ev.Env) (st : DS) : gl.lam (.call ("is_below" : Str) (.cons .non (.cons (.tup (.cons (.int 1) (.cons (.int 1) .nil))) .nil))) env st = .raise "BadRatio" [] st :=
  c_belowN .non (.tup [.int 1, .int 1]) st (okR_1 _ rfl fun _ e => by cases e) (okR_tt (sz (by decide))) (.inl rfl) rfl
theorem lam_2 (env : Ev.Env) (st : DS) : gl.lam (.call ("is_below" : Str) (.cons (.tup (.cons (.int 1) (.cons (.int 1) .nil))) (.cons (.tup (.cons (.int 2) (.cons (.int 2) .nil))) .nil))) env st = .raise "BadRatio" [] st :=
  c_belowN (.tup [.int 1, .int 1]) (.tup [.int 2, .int 2]) st (okR_tt (sz (by decide))) (okR_tt (sz (by decide))) (.inr (by decide)) rfl
/-- values are judged, one after another -/
theorem val_loop : ∀ (l : List D) (st : DS), (∀ v ∈ l, noClo v = true ∧ okR v) → ∀ (e0 e1 e2 e3 e4 e5 e6 e7 e8 e9 e10 e11 e12 e13 e14 : Option D),
    ∃ f8 f9 f10, foldF (forF gl (.nm 8) valB) l ([e0, e1, e2, e3, e4, e5, e6, e7, e8, e9, e10, e11, e12, e13, e14], []) st = .ok (([e0, e1, e2, e3, e4, e5, e6, e7, f8, f9, f10, e11, e12, e13, e14], []), .nx) st
  | [], st, _, e0, e1, e2, e3, e4, e5, e6, e7, e8, e9, e10, e11, e12, e13, e14 => ⟨e8, e9, e10, rfl⟩
  | v :: l, st, h, e0, e1, e2, e3, e4, e5, e6, e7, e8, e9, e10, e11, e12, e13, e14 => by
    obtain ⟨f8, f9, f10, e⟩ := val_loop l st (fun w hw => h w (List.mem_cons_of_mem _ hw)) e0 e1 e2 e3 e4 e5 e6 e7 (some v) (some (.bl (isRat v))) (some (.bl (isCh v))) e11 e12 e13 e14
    refine ⟨f8, f9, f10, ?_⟩
    rw [foldF_cons, val_turn v st (h v List.mem_cons_self).1 (h v List.mem_cons_self).2, Res.bind_ok]
    exact e
theorem wrd_loop : ∀ (l : List D) (st : DS), (∀ v ∈ l, okW v) → ∀ (e0 e1 e2 e3 e4 e5 e6 e7 e8 e9 e10 e11 e12 e13 e14 : Option D),
    ∃ f8, foldF (forF gl (.nm 8) wrdB) l ([e0, e1, e2, e3, e4, e5, e6, e7, e8, e9, e10, e11, e12, e13, e14], []) st = .ok (([e0, e1, e2, e3, e4, e5, e6, e7, f8, e9, e10, e11, e12, e13, e14], []), .nx) st
  | [], st, _, e0, e1, e2, e3, e4, e5, e6, e7, e8, e9, e10, e11, e12, e13, e14 => ⟨e8, rfl⟩
  | v :: l, st, h, e0, e1, e2, e3, e4, e5, e6, e7, e8, e9, e10, e11, e12, e13, e14 => by
    obtain ⟨f8, e⟩ := wrd_loop l st (fun w hw => h w (List.mem_cons_of_mem _ hw)) e0 e1 e2 e3 e4 e5 e6 e7 (some v) e9 e10 e11 e12 e13 e14
    refine ⟨f8, ?_⟩
    rw [foldF_cons, wrd_turn v st (h v List.mem_cons_self), Res.bind_ok]
    exact e
theorem lam_loop (st : DS) (e0 e1 e2 e3 e4 e5 e6 e7 e8 e9 e10 e11 e12 e13 e14 : Option D) : ∃ f14,
    foldF (forF gl (.nm 14) lamB) [.clo (.call ("is_below" : Str) (.cons .non (.cons (.tup (.cons (.int 1) (.cons (.int 1) .nil))) .nil))) [], .clo (.call ("is_below" : Str) (.cons (.tup (.cons (.int 1) (.cons (.int 1) .nil))) (.cons (.tup (.cons (.int 2) (.cons (.int 2) .nil))) .nil))) []] ([e0, e1, e2, e3, e4, e5, e6, e7, e8, e9, e10, e11, e12, e13, e14], []) st = .ok (([e0, e1, e2, e3, e4, e5, e6, e7, e8, e9, e10, e11, e12, e13, f14], []), .nx) st := by
  have q := sub_Q
  exact ⟨_, by simp [forF, lamB, lam_1, lam_2, catchR, q, isinT, isinC]; rfl⟩
theorem divneg (a b : Int) (hb : b ≠ 0) : Rat.divInt a (-b) = Rat.divInt (-a) b := by
  rw [Rat.divInt_eq_divInt_iff (by omega) hb, Int.neg_mul_neg]
theorem big20 : (10 : Int) ^ 20 = 100000000000000000000 := by decide
theorem app_cps (a b : Str) : (a ++ b).cps.toList = a.cps.toList ++ b.cps.toList := by
  show (a.cps ++ b.cps).toList = _
  simp
theorem cps_A : ("A" : Str).cps.toList = [65] := by decide +kernel
theorem evSs_stp {g : G} {s : S} {ss : Ss} {a b : Sta} {t u : DS} (h : evS g s a t = .ok (b, .nx) u) : evSs g (.cons s ss) a t = evSs g ss b u := by
  rw [evSs_cons, h]; rfl
theorem turn_ok (n : Nat) (st : DS) (h : DOk n st) (hn : n ≤ 2 ^ 37) (s v : D) (e2 e3 e4 e5 e6 e7 e8 e9 e10 e11 e12 e13 e14 : Option D) :
    Ok (forF gl (.nm 4) turnB v ([some s, some .drw, e2, e3, e4, e5, e6, e7, e8, e9, e10, e11, e12, e13, e14], []) st) fun r st' =>
      (∃ f4 f5 f6 f7 f8 f9 f10 f11 f12 f13 f14, r = (([some s, some .drw, e2, e3, f4, f5, f6, f7, f8, f9, f10, f11, f12, f13, f14], []), .nx)) ∧ DOk (n + 100) st' := by
  obtain ⟨x1, t1, q1, ⟨a, rfl, a0, a1⟩, h1⟩ := c_draw n 100000000000000000000 st h (by omega) (by decide) (sz (by decide))
  obtain ⟨x2, t2, q2, m2, h2⟩ := c_pick (n + 1) [.int 9, .int 100000000000000000000] t1 rfl h1 (by omega) (by simp) (by decide)
  obtain ⟨p, rfl, p0, p1⟩ : ∃ p : Int, x2 = .int p ∧ 0 < p ∧ p ≤ 100000000000000000000 := by
    simp only [List.mem_cons, List.not_mem_nil, or_false] at m2
    rcases m2 with rfl | rfl
    · exact ⟨_, rfl, by decide, by decide⟩
    · exact ⟨_, rfl, by decide, by decide⟩
  obtain ⟨x3, t3, q3, ⟨b, rfl, b0, b1⟩, h3⟩ := c_draw (n + 1 + 1) p t2 h2 (by omega) p0 (sz (by omega))
  obtain ⟨x4, t4, q4, ⟨c, rfl, c0, c1⟩, h4⟩ := c_draw (n + 1 + 1 + 1) 9 t3 h3 (by omega) (by decide) (sz (by decide))
  obtain ⟨x5, t5, q5, ⟨⟨o, rfl, ho⟩, h5⟩⟩ := c_number (n + 1 + 1 + 1 + 1) t4 h4 (by omega)
  obtain ⟨x6, t6, q6, ⟨⟨w, rfl, hw⟩, h6⟩⟩ := c_words (n + 1 + 1 + 1 + 1 + 4) t5 h5 (by omega)
  obtain ⟨x7, t7, q7, ⟨rfl, h7⟩⟩ := c_means (n + 1 + 1 + 1 + 1 + 4 + 9) t6 h6 (by omega)
  obtain ⟨x8, t8, q8, m8, h8⟩ := c_pick (n + 1 + 1 + 1 + 1 + 4 + 9 + 50) [.non, .bl true, .str "1"] t7 rfl h7 (by omega) (by simp) (by decide)
  obtain ⟨x9, t9, q9, m9, h9⟩ := c_pick (n + 1 + 1 + 1 + 1 + 4 + 9 + 50 + 1) [.int 0, .non, .bl false] t8 rfl h8 (by omega) (by simp) (by decide)
  -- the number and the ratios
  generalize hN : a - 10000000000000000000 = N at *
  generalize hD : 1 + b = Dn at *
  have d0 : Dn ≠ 0 := by omega
  have dS : Dn.natAbs < 2 ^ 100 := by omega
  have nS : N.natAbs < 2 ^ 100 := by omega
  have k1 := fun st => c_q N Dn st d0 (sz dS)
  have k2 := c_q (1 + c) 10 t4 (by decide) (sz (by decide))
  have k3 := fun st => c_ratio N Dn st d0 (sz dS)
  have k4 := fun st => c_ratio N (-Dn) st (by omega) (sz (by omega))
  have k5 := fun st => c_q (-N) Dn st d0 (sz dS)
  rw [divneg N Dn d0] at k4
  have mN := bin_mul N 6 (size_ok (a := 100) (b := 4) nS (by decide) (by decide))
  have mD := bin_mul Dn 6 (size_ok (a := 100) (b := 4) dS (by decide) (by decide))
  have smq : Sm 4000 (Rat.divInt N Dn) := (Sm.divInt nS dS d0).mono (by decide)
  have smo := ho.mono (k := 4000) (by decide)
  have k6 := fun st => c_same (Rat.divInt N Dn) st
  have k7 := fun st => c_below (Rat.divInt N Dn) o st smq smo
  have k8 := fun st => c_less (Rat.divInt N Dn) o st smq smo
  have k9 := fun st => c_below o o st smo smo
  have k10 := fun b st => c_truth b b st
  have k11 := ne_dR (Rat.divInt (-N) Dn) (Rat.divInt (-N) Dn)
  obtain ⟨f8, f9, f10, lp⟩ := val_loop [dR (Rat.divInt N Dn), dR (Rat.divInt (1 + c) 10), .tup [.int N, .int Dn], .tup [.int (N * 6), .int (Dn * 6)], .tup [.int N, .int (-Dn)], .lst [.int N, .int Dn], .tup [.int N], .tup [.bl true, .int 1], .tup [.int 0, .int 2], .tup [.int 1, .int 0], .non, .int N, .tup [.int 0, .int 1], .tup [.int 1, .int 1], .tup [.int 1, .int 2], .tup [.int 3, .int 2]] t4 (by
    have dRok : ∀ r : Rat, r.den < 2 ^ 100 → noClo (dR r) = true ∧ okR (dR r) := fun r hr => ⟨rfl, okR_tt (sz (by omega))⟩
    have tt : ∀ x y : Int, y.natAbs < 2 ^ 104 → noClo (.tup [.int x, .int y]) = true ∧ okR (.tup [.int x, .int y]) := fun x y hy => ⟨rfl, okR_tt (Nat.lt_of_lt_of_le hy (Nat.pow_le_pow_right (by decide) (by decide)))⟩
    intro v hv
    simp only [List.mem_cons, List.not_mem_nil, or_false] at hv
    rcases hv with rfl | rfl | rfl | rfl | rfl | rfl | rfl | rfl | rfl | rfl | rfl | rfl | rfl | rfl | rfl | rfl
    · exact dRok _ (Sm.divInt nS dS d0).2
    · exact dRok _ (Sm.divInt (k := 100) (by omega) (by decide) (by decide)).2
    · exact tt _ _ (by omega)
    · exact tt _ _ (by omega)
    · exact tt _ _ (by omega)
    · exact ⟨rfl, okR_1 _ rfl fun _ e => by cases e⟩
    · exact ⟨rfl, rfl, fun ds e => by cases e; exact ⟨by simp, fun n d e => by cases e⟩⟩
    · exact ⟨rfl, rfl, fun ds e => by cases e; exact ⟨by simp, fun n d e => by cases e⟩⟩
    · exact tt _ _ (by decide)
    · exact tt _ _ (by decide)
    · exact ⟨rfl, okR_1 _ rfl fun _ e => by cases e⟩
    · exact ⟨rfl, okR_1 _ rfl fun _ e => by cases e⟩
    · exact tt _ _ (by decide)
    · exact tt _ _ (by decide)
    · exact tt _ _ (by decide)
    · exact tt _ _ (by decide)) (some s) (some .drw) e2 e3 (some v) (some (.int N)) (some (.int Dn)) (some (dR (Rat.divInt (1 + c) 10))) e8 e9 e10 e11 e12 e13 e14
  -- the words
  obtain ⟨w1, w2⟩ := wd_lt hw
  have wlt : ∀ c ∈ w.cps.toList, c < 0x110000 := fun c hc => by
    have := List.all_eq_true.mp w1 c hc
    simp [isLt] at this; omega
  have u1 := bin_addS w "A" (by have : ("A" : Str).length = 1 := rfl; omega)
  have u2 : binop .mul (.str w) (.int 9) = some (.str (Txt.mul w 9)) := by
    show (if _ then _ else _) = _
    rw [if_pos]
    simp; omega
  have u3 : upperD (.str w) = some (.str (Txt.upper w)) := if_pos (by omega)
  have wm : (Txt.mul w (9 : Int)).length ≤ 100 ∧ ∀ c ∈ (Txt.mul w (9 : Int)).cps.toList, c < 0x110000 := mul_wd hw 9 (by decide)
  have wu := upper_wd w1
  obtain ⟨g8, lw⟩ := wrd_loop [.str w, .str (w ++ "A"), .str (Txt.mul w 9), .str "", .tup [.str w], .non, .str (Txt.upper w)] t6 (by
    intro v hv
    simp only [List.mem_cons, List.not_mem_nil, or_false] at hv
    rcases hv with rfl | rfl | rfl | rfl | rfl | rfl | rfl
    · exact .inl ⟨w, rfl, by omega, strOk_all wlt⟩
    · refine .inl ⟨_, rfl, ?_, strOk_all fun c hc => ?_⟩
      · rw [len_cps, app_cps, List.length_append, ← len_cps w]
        show w.length + 1 ≤ _
        omega
      · rw [app_cps] at hc
        rcases List.mem_append.mp hc with hc | hc
        · exact wlt c hc
        · rw [cps_A, List.mem_singleton] at hc; omega
    · exact .inl ⟨_, rfl, by omega, strOk_all wm.2⟩
    · exact .inl ⟨_, rfl, by decide +kernel, by decide +kernel⟩
    · exact .inr ⟨rfl, rfl, rfl⟩
    · exact .inr ⟨rfl, rfl, rfl⟩
    · refine .inl ⟨_, rfl, ?_, strOk_all fun c hc => ?_⟩
      · rw [len_cps, wu, List.length_map, ← len_cps]; omega
      · rw [wu] at hc
        obtain ⟨c', hc', rfl⟩ := List.mem_map.mp hc
        have := wlt c' hc'
        omega) (some s) (some .drw) e2 e3 (some v) (some (.int N)) (some (.int Dn)) (some (dR (Rat.divInt (1 + c) 10))) f8 f9 f10 (some (dR o)) (some (.str w)) e13 e14
  -- the errors
  have r1 : gl.call "ratio" [x8, .int 0] t8 = .raise "BadNumber" [.str "n"] t8 := by
    simp only [List.mem_cons, List.not_mem_nil, or_false] at m8
    rcases m8 with rfl | rfl | rfl
    · exact c_ratioN _ _ _ rfl rfl rfl
    · exact c_ratioN _ _ _ rfl rfl rfl
    · exact c_ratioN _ _ _ rfl rfl rfl
  have r2 : gl.call "ratio" [.int 1, x9] t9 = .raise "BadNumber" [.str "d"] t9 := by
    simp only [List.mem_cons, List.not_mem_nil, or_false] at m9
    rcases m9 with rfl | rfl | rfl
    · exact c_ratioD _ _ _ rfl (.inr rfl) rfl
    · exact c_ratioD _ _ _ rfl (.inl rfl) rfl
    · exact c_ratioD _ _ _ rfl (.inl rfl) rfl
  obtain ⟨g14, ll⟩ := lam_loop t9 (some s) (some .drw) e2 e3 (some v) (some (.int N)) (some (.int Dn)) (some (dR (Rat.divInt (1 + c) 10))) g8 f9 f10 (some (dR o)) (some (.str w)) (some (.exc "BadNumber" [.str "d"])) e14
  have sN := sub_N
  have nn := ne_ss "n" (by decide +kernel)
  have nd := ne_ss "d" (by decide +kernel)
  have fN := fld_N
  clear h1 h2 h3 h4 h5 h6 h7 h8 m2 m8 m9 p0 p1 a0 a1 b0 b1 c0 c1 d0 dS nS smq smo ho hw w1 wlt wm wu
  refine ⟨_, t9, ?_, ⟨some v, some (.int N), some (.int Dn), some (dR (Rat.divInt (1 + c) 10)), g8, f9, f10, some (dR o), some (.str w), some (.exc "BadNumber" [.str "d"]), g14, rfl⟩, h9.mono (by omega)⟩
  clear h9 hn h
  generalize gl = g at *
  have z0 : evS g s0 ([some s, some .drw, e2, e3, some v, e5, e6, e7, e8, e9, e10, e11, e12, e13, e14], []) st = .ok (([some s, some .drw, e2, e3, some v, some (.int N), some (.int Dn), e7, e8, e9, e10, e11, e12, e13, e14], []), .nx) t3 := by simp [-foldF_cons, s0, p20, p19, q1, q2, q3, hN, hD]
  have z1 : evS g s1 ([some s, some .drw, e2, e3, some v, some (.int N), some (.int Dn), e7, e8, e9, e10, e11, e12, e13, e14], []) t3 = .ok (([some s, some .drw, e2, e3, some v, some (.int N), some (.int Dn), some (dR (Rat.divInt (1 + c) 10)), e8, e9, e10, e11, e12, e13, e14], []), .nx) t4 := by simp [-foldF_cons, s1, q4, k2]
  have z2 : evS g s2 ([some s, some .drw, e2, e3, some v, some (.int N), some (.int Dn), some (dR (Rat.divInt (1 + c) 10)), e8, e9, e10, e11, e12, e13, e14], []) t4 = .ok (([some s, some .drw, e2, e3, some v, some (.int N), some (.int Dn), some (dR (Rat.divInt (1 + c) 10)), f8, f9, f10, e11, e12, e13, e14], []), .nx) t4 := by simp [-foldF_cons, s2, k1, mN, mD, lp]
  have z3 : evS g s3 ([some s, some .drw, e2, e3, some v, some (.int N), some (.int Dn), some (dR (Rat.divInt (1 + c) 10)), f8, f9, f10, e11, e12, e13, e14], []) t4 = .ok (([some s, some .drw, e2, e3, some v, some (.int N), some (.int Dn), some (dR (Rat.divInt (1 + c) 10)), f8, f9, f10, e11, e12, e13, e14], []), .nx) t4 := by simp [-foldF_cons, s3, k1, k3, k4, k5, k6, k11]
  have z4 : evS g s4 ([some s, some .drw, e2, e3, some v, some (.int N), some (.int Dn), some (dR (Rat.divInt (1 + c) 10)), f8, f9, f10, e11, e12, e13, e14], []) t4 = .ok (([some s, some .drw, e2, e3, some v, some (.int N), some (.int Dn), some (dR (Rat.divInt (1 + c) 10)), f8, f9, f10, some (dR o), e12, e13, e14], []), .nx) t5 := by simp [-foldF_cons, s4, q5]
  have z5 : evS g s5 ([some s, some .drw, e2, e3, some v, some (.int N), some (.int Dn), some (dR (Rat.divInt (1 + c) 10)), f8, f9, f10, some (dR o), e12, e13, e14], []) t5 = .ok (([some s, some .drw, e2, e3, some v, some (.int N), some (.int Dn), some (dR (Rat.divInt (1 + c) 10)), f8, f9, f10, some (dR o), e12, e13, e14], []), .nx) t5 := by simp [-foldF_cons, s5, k1, k7, k8, k9, k10, Rat.lt_irrefl]
  have z6 : evS g s6 ([some s, some .drw, e2, e3, some v, some (.int N), some (.int Dn), some (dR (Rat.divInt (1 + c) 10)), f8, f9, f10, some (dR o), e12, e13, e14], []) t5 = .ok (([some s, some .drw, e2, e3, some v, some (.int N), some (.int Dn), some (dR (Rat.divInt (1 + c) 10)), f8, f9, f10, some (dR o), some (.str w), e13, e14], []), .nx) t6 := by simp [-foldF_cons, s6, q6]
  have z7 : evS g s7 ([some s, some .drw, e2, e3, some v, some (.int N), some (.int Dn), some (dR (Rat.divInt (1 + c) 10)), f8, f9, f10, some (dR o), some (.str w), e13, e14], []) t6 = .ok (([some s, some .drw, e2, e3, some v, some (.int N), some (.int Dn), some (dR (Rat.divInt (1 + c) 10)), g8, f9, f10, some (dR o), some (.str w), e13, e14], []), .nx) t6 := by simp [-foldF_cons, s7, u1, u2, u3, lw]
  have z8 : evS g s8 ([some s, some .drw, e2, e3, some v, some (.int N), some (.int Dn), some (dR (Rat.divInt (1 + c) 10)), g8, f9, f10, some (dR o), some (.str w), e13, e14], []) t6 = .ok (([some s, some .drw, e2, e3, some v, some (.int N), some (.int Dn), some (dR (Rat.divInt (1 + c) 10)), g8, f9, f10, some (dR o), some (.str w), e13, e14], []), .nx) t7 := by simp [-foldF_cons, s8, q7]
  have z9 : evS g s9 ([some s, some .drw, e2, e3, some v, some (.int N), some (.int Dn), some (dR (Rat.divInt (1 + c) 10)), g8, f9, f10, some (dR o), some (.str w), e13, e14], []) t7 = .ok (([some s, some .drw, e2, e3, some v, some (.int N), some (.int Dn), some (dR (Rat.divInt (1 + c) 10)), g8, f9, f10, some (dR o), some (.str w), some (.exc "BadNumber" [.str "n"]), e14], []), .nx) t8 := by simp [-foldF_cons, s9, q8, r1, catchR, keepE]
  have z10 : evS g s10 ([some s, some .drw, e2, e3, some v, some (.int N), some (.int Dn), some (dR (Rat.divInt (1 + c) 10)), g8, f9, f10, some (dR o), some (.str w), some (.exc "BadNumber" [.str "n"]), e14], []) t8 = .ok (([some s, some .drw, e2, e3, some v, some (.int N), some (.int Dn), some (dR (Rat.divInt (1 + c) 10)), g8, f9, f10, some (dR o), some (.str w), some (.exc "BadNumber" [.str "n"]), e14], []), .nx) t8 := by simp [-foldF_cons, s10, isinT, isinC, sN, nn, fN]
  have z11 : evS g s11 ([some s, some .drw, e2, e3, some v, some (.int N), some (.int Dn), some (dR (Rat.divInt (1 + c) 10)), g8, f9, f10, some (dR o), some (.str w), some (.exc "BadNumber" [.str "n"]), e14], []) t8 = .ok (([some s, some .drw, e2, e3, some v, some (.int N), some (.int Dn), some (dR (Rat.divInt (1 + c) 10)), g8, f9, f10, some (dR o), some (.str w), some (.exc "BadNumber" [.str "d"]), e14], []), .nx) t9 := by simp [-foldF_cons, s11, q9, r2, catchR, keepE]
  have z12 : evS g s12 ([some s, some .drw, e2, e3, some v, some (.int N), some (.int Dn), some (dR (Rat.divInt (1 + c) 10)), g8, f9, f10, some (dR o), some (.str w), some (.exc "BadNumber" [.str "d"]), e14], []) t9 = .ok (([some s, some .drw, e2, e3, some v, some (.int N), some (.int Dn), some (dR (Rat.divInt (1 + c) 10)), g8, f9, f10, some (dR o), some (.str w), some (.exc "BadNumber" [.str "d"]), e14], []), .nx) t9 := by simp [-foldF_cons, s12, isinT, isinC, sN, nd, fN]
  have z13 : evS g s13 ([some s, some .drw, e2, e3, some v, some (.int N), some (.int Dn), some (dR (Rat.divInt (1 + c) 10)), g8, f9, f10, some (dR o), some (.str w), some (.exc "BadNumber" [.str "d"]), e14], []) t9 = .ok (([some s, some .drw, e2, e3, some v, some (.int N), some (.int Dn), some (dR (Rat.divInt (1 + c) 10)), g8, f9, f10, some (dR o), some (.str w), some (.exc "BadNumber" [.str "d"]), g14], []), .nx) t9 := by simp [-foldF_cons, s13, ll]
  show evSs g turnB ([some s, some .drw, e2, e3, some v, e5, e6, e7, e8, e9, e10, e11, e12, e13, e14], []) st = _
  unfold turnB
  rw [evSs_stp z0, evSs_stp z1, evSs_stp z2, evSs_stp z3, evSs_stp z4, evSs_stp z5, evSs_stp z6, evSs_stp z7, evSs_stp z8, evSs_stp z9, evSs_stp z10, evSs_stp z11, evSs_stp z12, evSs_stp z13, evSs_nil]
end K00
/-! Mn3: the law's answer. -/
namespace K00
open PySem L2 Ev
theorem c_mean : HMeanOk gl := fun j k s l u v st hv h1 h2 hl hj hk hz h0 ha => by
  have e := l6_mean 6 j k s l u v st hv h1 h2 hl hj hk hz h0 ha
  have nc : ∀ l : List Rat, noClos (l.map dR) = true := fun l => by
    induction l with
    | nil => rfl
    | cons r l ih => rw [List.map_cons, noClos, ih]; rfl
  cases hv with
  | l s l => exact cl_of (by simp only [noClos, noClo, nc]; rfl) e
  | t s l => exact cl_of (by simp only [noClos, noClo, nc]; rfl) e
theorem p50 : binop .pow (.int 10) (.int 50) = some (.int 100000000000000000000000000000000000000000000000000) := rfl
abbrev B50 : Rat := 100000000000000000000000000000000000000000000000000
theorem B50_d : (.tup [.int 100000000000000000000000000000000000000000000000000, .int 1] : D) = dR B50 := rfl
theorem B50_s : Sm 170 B50 := ⟨by decide, by decide⟩
theorem B50_0 : (0 : Rat) < B50 := by decide +kernel
theorem tiny_loop : ∀ (l : List D) (k : Nat) (r : Rat) (st : DS), 0 < r → Sm k r → k + 170 * l.length ≤ 3000 → ∀ (e0 e1 e3 e4 e5 e6 e7 e8 e9 e10 e11 e12 e13 e14 : Option D), ∃ (r' : Rat) (f3 : Option D), 0 < r' ∧ Sm (k + 170 * l.length) r' ∧
    foldF (forF gl (.nm 3) tinyB) l ([e0, e1, some (dR r), e3, e4, e5, e6, e7, e8, e9, e10, e11, e12, e13, e14], []) st = .ok (([e0, e1, some (dR r'), f3, e4, e5, e6, e7, e8, e9, e10, e11, e12, e13, e14], []), .nx) st
  | [], k, r, st, h1, h2, _, e0, e1, e3, e4, e5, e6, e7, e8, e9, e10, e11, e12, e13, e14 => ⟨r, e3, h1, h2, rfl⟩
  | v :: l, k, r, st, h1, h2, h3, e0, e1, e3, e4, e5, e6, e7, e8, e9, e10, e11, e12, e13, e14 => by
    rw [List.length_cons] at h3
    have hb : B50 ≠ 0 := by decide +kernel
    have hp : 0 < r / B50 := by unfold B50; grind
    obtain ⟨r', f3, p, q, e⟩ := tiny_loop l (k + 170) (r / B50) st hp (h2.div B50_s hb) (by omega) e0 e1 (some v) e4 e5 e6 e7 e8 e9 e10 e11 e12 e13 e14
    refine ⟨r', f3, p, q.mono (by rw [List.length_cons]; omega), ?_⟩
    have c := c_over r B50 st (h2.mono (by omega)) (B50_s.mono (by decide)) hb
    rw [← B50_d] at c
    rw [foldF_cons]
    have z : forF gl (.nm 3) tinyB v ([e0, e1, some (dR r), e3, e4, e5, e6, e7, e8, e9, e10, e11, e12, e13, e14], []) st = .ok (([e0, e1, some (dR (r / B50)), some v, e4, e5, e6, e7, e8, e9, e10, e11, e12, e13, e14], []), .nx) st := by
      simp [forF, tinyB, p50, c]
    rw [z, Res.bind_ok]
    exact e
theorem ok_ok (T : Rat) (k : Nat) (st : DS) (h : 0 < T) (hk : Sm 1500 T) (e0 e1 e3 e4 e5 e6 e7 e8 e9 e10 e11 e12 e13 e14 : Option D) :
    evS gl okB ([e0, e1, some (dR T), e3, e4, e5, e6, e7, e8, e9, e10, e11, e12, e13, e14], []) st = .ok (([e0, e1, some (dR T), e3, e4, e5, e6, e7, e8, e9, e10, e11, e12, e13, e14], []), .nx) st := by
  have a1 := c_lplus T T st (hk.mono (by decide)) (hk.mono (by decide))
  have a2 := c_below T (T + T) st (hk.mono (by decide)) ((hk.add hk).mono (by decide))
  have a3 := c_below 0 T st (Sm.zero.mono (by decide)) (hk.mono (by decide))
  have s2 : Sm 2 (2 : Rat) := ⟨by decide, by decide⟩
  have sh : Sm 2 (1 / 2 : Rat) := ⟨by decide +kernel, by decide +kernel⟩
  have a4 := c_over T 2 st (hk.mono (by decide)) (s2.mono (by decide)) (by decide +kernel)
  have ha : AreV (.lst [dR (1 / 2), dR (1 / 2)]) (.int 2) true := by
    have := AreV.rl (m := 2) (RL.l [1 / 2, 1 / 2]) (k := 2) (fun r hr => by
      simp only [List.mem_cons, List.not_mem_nil, or_false] at hr
      rcases hr with rfl | rfl <;> exact sh) (by decide)
    rwa [show (decide ((([1 / 2, 1 / 2] : List Rat).length : Int) = 2) && shB [1 / 2, 1 / 2]) = true by decide +kernel] at this
  have a5 := c_mean 2 1500 [1 / 2, 1 / 2] [T, 0] (.lst [dR (1 / 2), dR (1 / 2)]) (.lst [dR T, dR 0]) st (RL2.l [1 / 2, 1 / 2] [T, 0]) (fun r hr => by
      simp only [List.mem_cons, List.not_mem_nil, or_false] at hr
      rcases hr with rfl | rfl <;> exact sh) (fun r hr => by
      simp only [List.mem_cons, List.not_mem_nil, or_false] at hr
      rcases hr with rfl | rfl
      · exact hk
      · exact Sm.zero.mono (by decide)) rfl (by decide) (by decide) (by decide) (by simp) ha
  have hm : rsum (zipR [1 / 2, 1 / 2] [T, 0]) = T / 2 := by
    show (0 : Rat) + 1 / 2 * T + 1 / 2 * 0 = T / 2
    grind
  rw [hm] at a5
  have b1 : T < T + T := by grind
  have e1' : (.tup [.int 0, .int 1] : D) = dR 0 := rfl
  have e2' : (.tup [.int 1, .int 2] : D) = dR (1 / 2) := by
    unfold dR
    rw [show (1 / 2 : Rat).num = 1 by decide +kernel, show (1 / 2 : Rat).den = 2 by decide +kernel]
    rfl
  have e3' : (.tup [.int 2, .int 1] : D) = dR 2 := rfl
  have q := ne_dR (T / 2) (T / 2)
  rw [← e1'] at a3 a5
  rw [← e2'] at a5
  rw [← e3'] at a4
  generalize gl = g at *
  simp [okB, a1, a2, a3, a4, a5, b1, h, q]
theorem turns_ok (s : D) : ∀ (l : List D) (n : Nat) (st : DS), DOk n st → n + 100 * l.length ≤ 2 ^ 37 → ∀ (e2 e3 e4 e5 e6 e7 e8 e9 e10 e11 e12 e13 e14 : Option D), ∃ (env : Ev.Env) (st' : DS),
    foldF (forF gl (.nm 4) turnB) l ([some s, some .drw, e2, e3, e4, e5, e6, e7, e8, e9, e10, e11, e12, e13, e14], []) st = .ok ((env, []), .nx) st'
  | [], n, st, _, _, e2, e3, e4, e5, e6, e7, e8, e9, e10, e11, e12, e13, e14 => ⟨_, _, rfl⟩
  | v :: l, n, st, h1, h2, e2, e3, e4, e5, e6, e7, e8, e9, e10, e11, e12, e13, e14 => by
    rw [List.length_cons] at h2
    obtain ⟨r, st1, q, ⟨f4, f5, f6, f7, f8, f9, f10, f11, f12, f13, f14, rfl⟩, h3⟩ := turn_ok n st h1 (by omega) s v e2 e3 e4 e5 e6 e7 e8 e9 e10 e11 e12 e13 e14
    obtain ⟨env, st', e⟩ := turns_ok s l (n + 100) st1 h3 (by omega) e2 e3 f4 f5 f6 f7 f8 f9 f10 f11 f12 f13 f14
    refine ⟨env, st', ?_⟩
    rw [foldF_cons, q, Res.bind_ok]
    exact e
theorem main (ns : List Int) (h : ns.length ≤ 63) (hb : ∀ z ∈ ns, Builtin.Int.intBits z ≤ 1048576) : ∃ st, evB (G.cl (gAt tbl 12)) t_law ((env0 15 [.scr ns]).set 1 (some .drw)) (begun ns) = .ok (.bl true) st := by
  obtain ⟨T, f3, hT, sT, e1⟩ := tiny_loop (rangeL 0 8) 1 1 (begun ns) (by decide +kernel) ⟨by decide, by decide⟩ (by decide) (some (.scr ns)) (some .drw) none none none none none none none none none none none none
  have e2 := ok_ok T 0 (begun ns) hT (sT.mono (by decide)) (some (.scr ns)) (some .drw) f3 none none none none none none none none none none none
  have d0 : DOk 0 (begun ns) := ⟨Int.le_refl _, Int.le_refl _⟩
  have hm : minI (.int (ns.length : Int)) (.int 5) = some (.int (if (5 : Int) < ns.length then 5 else ns.length)) := rfl
  generalize hj : (if (5 : Int) < ns.length then (5 : Int) else ns.length) = j at hm
  have hj2 : 0 ≤ j ∧ j ≤ 5 := by split at hj <;> omega
  have hr := rangeD_1 (j := 2 + j) (by omega) (by omega)
  obtain ⟨env, st', e3⟩ := turns_ok (.scr ns) (rangeL 0 (2 + j).toNat) 0 (begun ns) d0 (by rw [rangeL_len]; omega) (some (dR T)) f3 none none none none none none none none none none none
  have l1 : lenD (.scr ns) = some (ns.length : Int) := rfl
  have r8 : rangeD [.int 8] = some (rangeL 0 8) := rfl
  have z1 : (.tup [.int 1, .int 1] : D) = dR 1 := rfl
  have l2 : evB gl t_law [some (.scr ns), some .drw, none, none, none, none, none, none, none, none, none, none, none, none, none] (begun ns) = .ok (.bl true) st' := by
    unfold evB
    rw [law_eq]
    have s1 : evS gl (.asg (.nm 2) false (.tup (.cons (.int 1) (.cons (.int 1) .nil)))) ([some (.scr ns), some .drw, none, none, none, none, none, none, none, none, none, none, none, none, none], []) (begun ns) = .ok (([some (.scr ns), some .drw, some (dR 1), none, none, none, none, none, none, none, none, none, none, none, none], []), .nx) (begun ns) := by
      rw [← z1]; simp
    have s2 : evS gl (.for_ (.nm 3) (.range1 (.int 8)) tinyB) ([some (.scr ns), some .drw, some (dR 1), none, none, none, none, none, none, none, none, none, none, none, none], []) (begun ns) = .ok (([some (.scr ns), some .drw, some (dR T), f3, none, none, none, none, none, none, none, none, none, none, none], []), .nx) (begun ns) := by
      rw [evS_for, evI_range1, evE_int, Res.bind_ok, r8]
      exact e1
    have s3 : evS gl (.for_ (.nm 4) (.range1 (.bin .add (.int 2) (.min2 (.b1 .len (.bor 0)) (.int 5)))) turnB) ([some (.scr ns), some .drw, some (dR T), f3, none, none, none, none, none, none, none, none, none, none, none], []) (begun ns) = .ok ((env, []), .nx) st' := by
      rw [evS_for]
      simp [-foldF_cons, l1, hm, hr, e3]
    rw [evSs_stp s1, evSs_stp s2, evSs_stp e2, evSs_stp s3]
    rfl
  exact ⟨st', l2⟩
end K00
/-! End_k00: the text behind its top. -/
namespace K00
open PySem PySem.Spec PyProof.Rows L2 Ev LamX
def lams : List Str := ([("_law_means_right" : Str), ("law" : Str)] : List Str)
theorem kf_cases {p : Str × Nat × List Str × List Nat} (hp : p ∈ T0.kfns) : p = (("is_below" : Str), 0, ([("other" : Str), ("one" : Str)] : List Str), [1, 0]) ∨ p = (("is_chance" : Str), 0, ([("value" : Str)] : List Str), [0]) ∨ p = (("is_ratio" : Str), 0, ([("value" : Str)] : List Str), [0]) ∨ p = (("is_word" : Str), 0, ([("value" : Str)] : List Str), [0]) ∨ p = (("mean" : Str), 0, ([("shares" : Str), ("ratios" : Str)] : List Str), [1, 0]) ∨ p = (("ratio" : Str), 0, ([("d" : Str), ("n" : Str)] : List Str), [1, 0]) := by
  simpa only [T0, List.mem_cons, List.not_mem_nil, or_false] using hp
theorem sc_is_whole : FnScope ([("value" : Str)] : List Str) ([("value" : Str)] : List Str) (defScope (top 10)) := ⟨rfl, rfl, rfl, by decide +kernel, rfl, by decide +kernel, by decide +kernel⟩
theorem bd_is_whole : ∀ (kV doc pm : Value) (an : Option Addr) (cdv ct : Value) (us : List Value), us.length = ([("value" : Str)] : List Str).length → bindArgs (PySem.W.fnOf ("is_whole" : Str) ("is_whole" : Str) (defArgs (top 10)) (defBody (top 10)) (defScope (top 10)) .none kV doc pm an cdv ct) ⟨us, []⟩ = pure (([("value" : Str)] : List Str).zip us) := fun _ _ _ _ _ _ us hl => match us, hl with | [_], _ => rfl
theorem kb_is_whole {K : PySem.W.Frag} : ∀ (kV doc pm : Value) (an : Option Addr) (cdv ct : Value), ∀ p ∈ T0.kfns, p.1 = ("is_whole" : Str) → KBinds K (PySem.W.fnOf ("is_whole" : Str) ("is_whole" : Str) (defArgs (top 10)) (defBody (top 10)) (defScope (top 10)) .none kV doc pm an cdv ct) ([("value" : Str)] : List Str) p.2.2.1 (permG p.2.1 p.2.2.1.length p.2.2.2) (permG p.2.1 p.2.2.1.length p.2.2.2) := by
  intro kV doc pm an cdv ct p hp e
  rcases kf_cases hp with rfl | rfl | rfl | rfl | rfl | rfl
  · exact absurd e (by decide)
  · exact absurd e (by decide)
  · exact absurd e (by decide)
  · exact absurd e (by decide)
  · exact absurd e (by decide)
  · exact absurd e (by decide)
theorem sc_is_ratio : FnScope ([("value" : Str), ("part" : Str)] : List Str) ([("value" : Str)] : List Str) (defScope (top 11)) := ⟨rfl, rfl, rfl, by decide +kernel, rfl, by decide +kernel, by decide +kernel⟩
theorem bd_is_ratio : ∀ (kV doc pm : Value) (an : Option Addr) (cdv ct : Value) (us : List Value), us.length = ([("value" : Str)] : List Str).length → bindArgs (PySem.W.fnOf ("is_ratio" : Str) ("is_ratio" : Str) (defArgs (top 11)) (defBody (top 11)) (defScope (top 11)) .none kV doc pm an cdv ct) ⟨us, []⟩ = pure (([("value" : Str)] : List Str).zip us) := fun _ _ _ _ _ _ us hl => match us, hl with | [_], _ => rfl
theorem kb_is_ratio {K : PySem.W.Frag} : ∀ (kV doc pm : Value) (an : Option Addr) (cdv ct : Value), ∀ p ∈ T0.kfns, p.1 = ("is_ratio" : Str) → KBinds K (PySem.W.fnOf ("is_ratio" : Str) ("is_ratio" : Str) (defArgs (top 11)) (defBody (top 11)) (defScope (top 11)) .none kV doc pm an cdv ct) ([("value" : Str)] : List Str) p.2.2.1 (permG p.2.1 p.2.2.1.length p.2.2.2) (permG p.2.1 p.2.2.1.length p.2.2.2) := by
  intro kV doc pm an cdv ct p hp e
  rcases kf_cases hp with rfl | rfl | rfl | rfl | rfl | rfl
  · exact absurd e (by decide)
  · exact absurd e (by decide)
  · exact kb_of (by decide) fun us ws h1 h2 => match us, ws, h1, h2 with | [], [_], _, _ => rfl
  · exact absurd e (by decide)
  · exact absurd e (by decide)
  · exact absurd e (by decide)
theorem sc_is_chance : FnScope ([("value" : Str)] : List Str) ([("value" : Str)] : List Str) (defScope (top 12)) := ⟨rfl, rfl, rfl, by decide +kernel, rfl, by decide +kernel, by decide +kernel⟩
theorem bd_is_chance : ∀ (kV doc pm : Value) (an : Option Addr) (cdv ct : Value) (us : List Value), us.length = ([("value" : Str)] : List Str).length → bindArgs (PySem.W.fnOf ("is_chance" : Str) ("is_chance" : Str) (defArgs (top 12)) (defBody (top 12)) (defScope (top 12)) .none kV doc pm an cdv ct) ⟨us, []⟩ = pure (([("value" : Str)] : List Str).zip us) := fun _ _ _ _ _ _ us hl => match us, hl with | [_], _ => rfl
theorem kb_is_chance {K : PySem.W.Frag} : ∀ (kV doc pm : Value) (an : Option Addr) (cdv ct : Value), ∀ p ∈ T0.kfns, p.1 = ("is_chance" : Str) → KBinds K (PySem.W.fnOf ("is_chance" : Str) ("is_chance" : Str) (defArgs (top 12)) (defBody (top 12)) (defScope (top 12)) .none kV doc pm an cdv ct) ([("value" : Str)] : List Str) p.2.2.1 (permG p.2.1 p.2.2.1.length p.2.2.2) (permG p.2.1 p.2.2.1.length p.2.2.2) := by
  intro kV doc pm an cdv ct p hp e
  rcases kf_cases hp with rfl | rfl | rfl | rfl | rfl | rfl
  · exact absurd e (by decide)
  · exact kb_of (by decide) fun us ws h1 h2 => match us, ws, h1, h2 with | [], [_], _, _ => rfl
  · exact absurd e (by decide)
  · exact absurd e (by decide)
  · exact absurd e (by decide)
  · exact absurd e (by decide)
theorem sc_lowest : FnScope ([("n" : Str), ("d" : Str), ("common" : Str)] : List Str) ([("n" : Str), ("d" : Str)] : List Str) (defScope (top 13)) := ⟨rfl, rfl, rfl, by decide +kernel, rfl, by decide +kernel, by decide +kernel⟩
theorem bd_lowest : ∀ (kV doc pm : Value) (an : Option Addr) (cdv ct : Value) (us : List Value), us.length = ([("n" : Str), ("d" : Str)] : List Str).length → bindArgs (PySem.W.fnOf ("lowest" : Str) ("lowest" : Str) (defArgs (top 13)) (defBody (top 13)) (defScope (top 13)) .none kV doc pm an cdv ct) ⟨us, []⟩ = pure (([("n" : Str), ("d" : Str)] : List Str).zip us) := fun _ _ _ _ _ _ us hl => match us, hl with | [_, _], _ => rfl
theorem kb_lowest {K : PySem.W.Frag} : ∀ (kV doc pm : Value) (an : Option Addr) (cdv ct : Value), ∀ p ∈ T0.kfns, p.1 = ("lowest" : Str) → KBinds K (PySem.W.fnOf ("lowest" : Str) ("lowest" : Str) (defArgs (top 13)) (defBody (top 13)) (defScope (top 13)) .none kV doc pm an cdv ct) ([("n" : Str), ("d" : Str)] : List Str) p.2.2.1 (permG p.2.1 p.2.2.1.length p.2.2.2) (permG p.2.1 p.2.2.1.length p.2.2.2) := by
  intro kV doc pm an cdv ct p hp e
  rcases kf_cases hp with rfl | rfl | rfl | rfl | rfl | rfl
  · exact absurd e (by decide)
  · exact absurd e (by decide)
  · exact absurd e (by decide)
  · exact absurd e (by decide)
  · exact absurd e (by decide)
  · exact absurd e (by decide)
theorem sc_plus : FnScope ([("one" : Str), ("other" : Str)] : List Str) ([("one" : Str), ("other" : Str)] : List Str) (defScope (top 14)) := ⟨rfl, rfl, rfl, by decide +kernel, rfl, by decide +kernel, by decide +kernel⟩
theorem bd_plus : ∀ (kV doc pm : Value) (an : Option Addr) (cdv ct : Value) (us : List Value), us.length = ([("one" : Str), ("other" : Str)] : List Str).length → bindArgs (PySem.W.fnOf ("plus" : Str) ("plus" : Str) (defArgs (top 14)) (defBody (top 14)) (defScope (top 14)) .none kV doc pm an cdv ct) ⟨us, []⟩ = pure (([("one" : Str), ("other" : Str)] : List Str).zip us) := fun _ _ _ _ _ _ us hl => match us, hl with | [_, _], _ => rfl
theorem kb_plus {K : PySem.W.Frag} : ∀ (kV doc pm : Value) (an : Option Addr) (cdv ct : Value), ∀ p ∈ T0.kfns, p.1 = ("plus" : Str) → KBinds K (PySem.W.fnOf ("plus" : Str) ("plus" : Str) (defArgs (top 14)) (defBody (top 14)) (defScope (top 14)) .none kV doc pm an cdv ct) ([("one" : Str), ("other" : Str)] : List Str) p.2.2.1 (permG p.2.1 p.2.2.1.length p.2.2.2) (permG p.2.1 p.2.2.1.length p.2.2.2) := by
  intro kV doc pm an cdv ct p hp e
  rcases kf_cases hp with rfl | rfl | rfl | rfl | rfl | rfl
  · exact absurd e (by decide)
  · exact absurd e (by decide)
  · exact absurd e (by decide)
  · exact absurd e (by decide)
  · exact absurd e (by decide)
  · exact absurd e (by decide)
theorem sc_times : FnScope ([("one" : Str), ("other" : Str)] : List Str) ([("one" : Str), ("other" : Str)] : List Str) (defScope (top 15)) := ⟨rfl, rfl, rfl, by decide +kernel, rfl, by decide +kernel, by decide +kernel⟩
theorem bd_times : ∀ (kV doc pm : Value) (an : Option Addr) (cdv ct : Value) (us : List Value), us.length = ([("one" : Str), ("other" : Str)] : List Str).length → bindArgs (PySem.W.fnOf ("times" : Str) ("times" : Str) (defArgs (top 15)) (defBody (top 15)) (defScope (top 15)) .none kV doc pm an cdv ct) ⟨us, []⟩ = pure (([("one" : Str), ("other" : Str)] : List Str).zip us) := fun _ _ _ _ _ _ us hl => match us, hl with | [_, _], _ => rfl
theorem kb_times {K : PySem.W.Frag} : ∀ (kV doc pm : Value) (an : Option Addr) (cdv ct : Value), ∀ p ∈ T0.kfns, p.1 = ("times" : Str) → KBinds K (PySem.W.fnOf ("times" : Str) ("times" : Str) (defArgs (top 15)) (defBody (top 15)) (defScope (top 15)) .none kV doc pm an cdv ct) ([("one" : Str), ("other" : Str)] : List Str) p.2.2.1 (permG p.2.1 p.2.2.1.length p.2.2.2) (permG p.2.1 p.2.2.1.length p.2.2.2) := by
  intro kV doc pm an cdv ct p hp e
  rcases kf_cases hp with rfl | rfl | rfl | rfl | rfl | rfl
  · exact absurd e (by decide)
  · exact absurd e (by decide)
  · exact absurd e (by decide)
  · exact absurd e (by decide)
  · exact absurd e (by decide)
  · exact absurd e (by decide)
theorem sc_is_less : FnScope ([("one" : Str), ("other" : Str)] : List Str) ([("one" : Str), ("other" : Str)] : List Str) (defScope (top 16)) := ⟨rfl, rfl, rfl, by decide +kernel, rfl, by decide +kernel, by decide +kernel⟩
theorem bd_is_less : ∀ (kV doc pm : Value) (an : Option Addr) (cdv ct : Value) (us : List Value), us.length = ([("one" : Str), ("other" : Str)] : List Str).length → bindArgs (PySem.W.fnOf ("is_less" : Str) ("is_less" : Str) (defArgs (top 16)) (defBody (top 16)) (defScope (top 16)) .none kV doc pm an cdv ct) ⟨us, []⟩ = pure (([("one" : Str), ("other" : Str)] : List Str).zip us) := fun _ _ _ _ _ _ us hl => match us, hl with | [_, _], _ => rfl
theorem kb_is_less {K : PySem.W.Frag} : ∀ (kV doc pm : Value) (an : Option Addr) (cdv ct : Value), ∀ p ∈ T0.kfns, p.1 = ("is_less" : Str) → KBinds K (PySem.W.fnOf ("is_less" : Str) ("is_less" : Str) (defArgs (top 16)) (defBody (top 16)) (defScope (top 16)) .none kV doc pm an cdv ct) ([("one" : Str), ("other" : Str)] : List Str) p.2.2.1 (permG p.2.1 p.2.2.1.length p.2.2.2) (permG p.2.1 p.2.2.1.length p.2.2.2) := by
  intro kV doc pm an cdv ct p hp e
  rcases kf_cases hp with rfl | rfl | rfl | rfl | rfl | rfl
  · exact absurd e (by decide)
  · exact absurd e (by decide)
  · exact absurd e (by decide)
  · exact absurd e (by decide)
  · exact absurd e (by decide)
  · exact absurd e (by decide)
theorem sc_total : FnScope ([("ratios" : Str), ("found" : Str), ("each" : Str)] : List Str) ([("ratios" : Str)] : List Str) (defScope (top 17)) := ⟨rfl, rfl, rfl, by decide +kernel, rfl, by decide +kernel, by decide +kernel⟩
theorem bd_total : ∀ (kV doc pm : Value) (an : Option Addr) (cdv ct : Value) (us : List Value), us.length = ([("ratios" : Str)] : List Str).length → bindArgs (PySem.W.fnOf ("total" : Str) ("total" : Str) (defArgs (top 17)) (defBody (top 17)) (defScope (top 17)) .none kV doc pm an cdv ct) ⟨us, []⟩ = pure (([("ratios" : Str)] : List Str).zip us) := fun _ _ _ _ _ _ us hl => match us, hl with | [_], _ => rfl
theorem kb_total {K : PySem.W.Frag} : ∀ (kV doc pm : Value) (an : Option Addr) (cdv ct : Value), ∀ p ∈ T0.kfns, p.1 = ("total" : Str) → KBinds K (PySem.W.fnOf ("total" : Str) ("total" : Str) (defArgs (top 17)) (defBody (top 17)) (defScope (top 17)) .none kV doc pm an cdv ct) ([("ratios" : Str)] : List Str) p.2.2.1 (permG p.2.1 p.2.2.1.length p.2.2.2) (permG p.2.1 p.2.2.1.length p.2.2.2) := by
  intro kV doc pm an cdv ct p hp e
  rcases kf_cases hp with rfl | rfl | rfl | rfl | rfl | rfl
  · exact absurd e (by decide)
  · exact absurd e (by decide)
  · exact absurd e (by decide)
  · exact absurd e (by decide)
  · exact absurd e (by decide)
  · exact absurd e (by decide)
theorem sc_is_below : FnScope ([("one" : Str), ("other" : Str)] : List Str) ([("one" : Str), ("other" : Str)] : List Str) (defScope (top 18)) := ⟨rfl, rfl, rfl, by decide +kernel, rfl, by decide +kernel, by decide +kernel⟩
theorem bd_is_below : ∀ (kV doc pm : Value) (an : Option Addr) (cdv ct : Value) (us : List Value), us.length = ([("one" : Str), ("other" : Str)] : List Str).length → bindArgs (PySem.W.fnOf ("is_below" : Str) ("is_below" : Str) (defArgs (top 18)) (defBody (top 18)) (defScope (top 18)) .none kV doc pm an cdv ct) ⟨us, []⟩ = pure (([("one" : Str), ("other" : Str)] : List Str).zip us) := fun _ _ _ _ _ _ us hl => match us, hl with | [_, _], _ => rfl
theorem kb_is_below {K : PySem.W.Frag} : ∀ (kV doc pm : Value) (an : Option Addr) (cdv ct : Value), ∀ p ∈ T0.kfns, p.1 = ("is_below" : Str) → KBinds K (PySem.W.fnOf ("is_below" : Str) ("is_below" : Str) (defArgs (top 18)) (defBody (top 18)) (defScope (top 18)) .none kV doc pm an cdv ct) ([("one" : Str), ("other" : Str)] : List Str) p.2.2.1 (permG p.2.1 p.2.2.1.length p.2.2.2) (permG p.2.1 p.2.2.1.length p.2.2.2) := by
  intro kV doc pm an cdv ct p hp e
  rcases kf_cases hp with rfl | rfl | rfl | rfl | rfl | rfl
  · exact kb_of (by decide) fun us ws h1 h2 => match us, ws, h1, h2 with | [], [_, _], _, _ => rfl
  · exact absurd e (by decide)
  · exact absurd e (by decide)
  · exact absurd e (by decide)
  · exact absurd e (by decide)
  · exact absurd e (by decide)
theorem sc_ratio : FnScope ([("n" : Str), ("d" : Str)] : List Str) ([("n" : Str), ("d" : Str)] : List Str) (defScope (top 19)) := ⟨rfl, rfl, rfl, by decide +kernel, rfl, by decide +kernel, by decide +kernel⟩
theorem bd_ratio : ∀ (kV doc pm : Value) (an : Option Addr) (cdv ct : Value) (us : List Value), us.length = ([("n" : Str), ("d" : Str)] : List Str).length → bindArgs (PySem.W.fnOf ("ratio" : Str) ("ratio" : Str) (defArgs (top 19)) (defBody (top 19)) (defScope (top 19)) .none kV doc pm an cdv ct) ⟨us, []⟩ = pure (([("n" : Str), ("d" : Str)] : List Str).zip us) := fun _ _ _ _ _ _ us hl => match us, hl with | [_, _], _ => rfl
theorem kb_ratio {K : PySem.W.Frag} : ∀ (kV doc pm : Value) (an : Option Addr) (cdv ct : Value), ∀ p ∈ T0.kfns, p.1 = ("ratio" : Str) → KBinds K (PySem.W.fnOf ("ratio" : Str) ("ratio" : Str) (defArgs (top 19)) (defBody (top 19)) (defScope (top 19)) .none kV doc pm an cdv ct) ([("n" : Str), ("d" : Str)] : List Str) p.2.2.1 (permG p.2.1 p.2.2.1.length p.2.2.2) (permG p.2.1 p.2.2.1.length p.2.2.2) := by
  intro kV doc pm an cdv ct p hp e
  rcases kf_cases hp with rfl | rfl | rfl | rfl | rfl | rfl
  · exact absurd e (by decide)
  · exact absurd e (by decide)
  · exact absurd e (by decide)
  · exact absurd e (by decide)
  · exact absurd e (by decide)
  · exact kb_of (by decide) fun us ws h1 h2 => match us, ws, h1, h2 with | [], [_, _], _, _ => rfl
theorem sc_are_shares : FnScope ([("value" : Str), ("many" : Str), ("share" : Str)] : List Str) ([("value" : Str), ("many" : Str)] : List Str) (defScope (top 20)) := ⟨rfl, rfl, rfl, by decide +kernel, rfl, by decide +kernel, by decide +kernel⟩
theorem bd_are_shares : ∀ (kV doc pm : Value) (an : Option Addr) (cdv ct : Value) (us : List Value), us.length = ([("value" : Str), ("many" : Str)] : List Str).length → bindArgs (PySem.W.fnOf ("are_shares" : Str) ("are_shares" : Str) (defArgs (top 20)) (defBody (top 20)) (defScope (top 20)) .none kV doc pm an cdv ct) ⟨us, []⟩ = pure (([("value" : Str), ("many" : Str)] : List Str).zip us) := fun _ _ _ _ _ _ us hl => match us, hl with | [_, _], _ => rfl
theorem kb_are_shares {K : PySem.W.Frag} : ∀ (kV doc pm : Value) (an : Option Addr) (cdv ct : Value), ∀ p ∈ T0.kfns, p.1 = ("are_shares" : Str) → KBinds K (PySem.W.fnOf ("are_shares" : Str) ("are_shares" : Str) (defArgs (top 20)) (defBody (top 20)) (defScope (top 20)) .none kV doc pm an cdv ct) ([("value" : Str), ("many" : Str)] : List Str) p.2.2.1 (permG p.2.1 p.2.2.1.length p.2.2.2) (permG p.2.1 p.2.2.1.length p.2.2.2) := by
  intro kV doc pm an cdv ct p hp e
  rcases kf_cases hp with rfl | rfl | rfl | rfl | rfl | rfl
  · exact absurd e (by decide)
  · exact absurd e (by decide)
  · exact absurd e (by decide)
  · exact absurd e (by decide)
  · exact absurd e (by decide)
  · exact absurd e (by decide)
theorem sc_need_shares : FnScope ([("shares" : Str), ("many" : Str)] : List Str) ([("shares" : Str), ("many" : Str)] : List Str) (defScope (top 21)) := ⟨rfl, rfl, rfl, by decide +kernel, rfl, by decide +kernel, by decide +kernel⟩
theorem bd_need_shares : ∀ (kV doc pm : Value) (an : Option Addr) (cdv ct : Value) (us : List Value), us.length = ([("shares" : Str), ("many" : Str)] : List Str).length → bindArgs (PySem.W.fnOf ("need_shares" : Str) ("need_shares" : Str) (defArgs (top 21)) (defBody (top 21)) (defScope (top 21)) .none kV doc pm an cdv ct) ⟨us, []⟩ = pure (([("shares" : Str), ("many" : Str)] : List Str).zip us) := fun _ _ _ _ _ _ us hl => match us, hl with | [_, _], _ => rfl
theorem kb_need_shares {K : PySem.W.Frag} : ∀ (kV doc pm : Value) (an : Option Addr) (cdv ct : Value), ∀ p ∈ T0.kfns, p.1 = ("need_shares" : Str) → KBinds K (PySem.W.fnOf ("need_shares" : Str) ("need_shares" : Str) (defArgs (top 21)) (defBody (top 21)) (defScope (top 21)) .none kV doc pm an cdv ct) ([("shares" : Str), ("many" : Str)] : List Str) p.2.2.1 (permG p.2.1 p.2.2.1.length p.2.2.2) (permG p.2.1 p.2.2.1.length p.2.2.2) := by
  intro kV doc pm an cdv ct p hp e
  rcases kf_cases hp with rfl | rfl | rfl | rfl | rfl | rfl
  · exact absurd e (by decide)
  · exact absurd e (by decide)
  · exact absurd e (by decide)
  · exact absurd e (by decide)
  · exact absurd e (by decide)
  · exact absurd e (by decide)
theorem sc_mean_of : FnScope ([("ratios" : Str), ("shares" : Str), ("share" : Str), ("ratio_" : Str)] : List Str) ([("ratios" : Str), ("shares" : Str)] : List Str) (defScope (top 22)) := ⟨rfl, rfl, rfl, by decide +kernel, rfl, by decide +kernel, by decide +kernel⟩
theorem bd_mean_of : ∀ (kV doc pm : Value) (an : Option Addr) (cdv ct : Value) (us : List Value), us.length = ([("ratios" : Str), ("shares" : Str)] : List Str).length → bindArgs (PySem.W.fnOf ("mean_of" : Str) ("mean_of" : Str) (defArgs (top 22)) (defBody (top 22)) (defScope (top 22)) .none kV doc pm an cdv ct) ⟨us, []⟩ = pure (([("ratios" : Str), ("shares" : Str)] : List Str).zip us) := fun _ _ _ _ _ _ us hl => match us, hl with | [_, _], _ => rfl
theorem kb_mean_of {K : PySem.W.Frag} : ∀ (kV doc pm : Value) (an : Option Addr) (cdv ct : Value), ∀ p ∈ T0.kfns, p.1 = ("mean_of" : Str) → KBinds K (PySem.W.fnOf ("mean_of" : Str) ("mean_of" : Str) (defArgs (top 22)) (defBody (top 22)) (defScope (top 22)) .none kV doc pm an cdv ct) ([("ratios" : Str), ("shares" : Str)] : List Str) p.2.2.1 (permG p.2.1 p.2.2.1.length p.2.2.2) (permG p.2.1 p.2.2.1.length p.2.2.2) := by
  intro kV doc pm an cdv ct p hp e
  rcases kf_cases hp with rfl | rfl | rfl | rfl | rfl | rfl
  · exact absurd e (by decide)
  · exact absurd e (by decide)
  · exact absurd e (by decide)
  · exact absurd e (by decide)
  · exact absurd e (by decide)
  · exact absurd e (by decide)
theorem sc_mean : FnScope ([("ratios" : Str), ("shares" : Str), ("each" : Str)] : List Str) ([("ratios" : Str), ("shares" : Str)] : List Str) (defScope (top 23)) := ⟨rfl, rfl, rfl, by decide +kernel, rfl, by decide +kernel, by decide +kernel⟩
theorem bd_mean : ∀ (kV doc pm : Value) (an : Option Addr) (cdv ct : Value) (us : List Value), us.length = ([("ratios" : Str), ("shares" : Str)] : List Str).length → bindArgs (PySem.W.fnOf ("mean" : Str) ("mean" : Str) (defArgs (top 23)) (defBody (top 23)) (defScope (top 23)) .none kV doc pm an cdv ct) ⟨us, []⟩ = pure (([("ratios" : Str), ("shares" : Str)] : List Str).zip us) := fun _ _ _ _ _ _ us hl => match us, hl with | [_, _], _ => rfl
theorem kb_mean {K : PySem.W.Frag} : ∀ (kV doc pm : Value) (an : Option Addr) (cdv ct : Value), ∀ p ∈ T0.kfns, p.1 = ("mean" : Str) → KBinds K (PySem.W.fnOf ("mean" : Str) ("mean" : Str) (defArgs (top 23)) (defBody (top 23)) (defScope (top 23)) .none kV doc pm an cdv ct) ([("ratios" : Str), ("shares" : Str)] : List Str) p.2.2.1 (permG p.2.1 p.2.2.1.length p.2.2.2) (permG p.2.1 p.2.2.1.length p.2.2.2) := by
  intro kV doc pm an cdv ct p hp e
  rcases kf_cases hp with rfl | rfl | rfl | rfl | rfl | rfl
  · exact absurd e (by decide)
  · exact absurd e (by decide)
  · exact absurd e (by decide)
  · exact absurd e (by decide)
  · exact kb_of (by decide) fun us ws h1 h2 => match us, ws, h1, h2 with | [], [_, _], _, _ => rfl
  · exact absurd e (by decide)
theorem sc_is_word : FnScope ([("value" : Str), ("letter" : Str)] : List Str) ([("value" : Str)] : List Str) (defScope (top 26)) := ⟨rfl, rfl, rfl, by decide +kernel, rfl, by decide +kernel, by decide +kernel⟩
theorem bd_is_word : ∀ (kV doc pm : Value) (an : Option Addr) (cdv ct : Value) (us : List Value), us.length = ([("value" : Str)] : List Str).length → bindArgs (PySem.W.fnOf ("is_word" : Str) ("is_word" : Str) (defArgs (top 26)) (defBody (top 26)) (defScope (top 26)) .none kV doc pm an cdv ct) ⟨us, []⟩ = pure (([("value" : Str)] : List Str).zip us) := fun _ _ _ _ _ _ us hl => match us, hl with | [_], _ => rfl
theorem kb_is_word {K : PySem.W.Frag} : ∀ (kV doc pm : Value) (an : Option Addr) (cdv ct : Value), ∀ p ∈ T0.kfns, p.1 = ("is_word" : Str) → KBinds K (PySem.W.fnOf ("is_word" : Str) ("is_word" : Str) (defArgs (top 26)) (defBody (top 26)) (defScope (top 26)) .none kV doc pm an cdv ct) ([("value" : Str)] : List Str) p.2.2.1 (permG p.2.1 p.2.2.1.length p.2.2.2) (permG p.2.1 p.2.2.1.length p.2.2.2) := by
  intro kV doc pm an cdv ct p hp e
  rcases kf_cases hp with rfl | rfl | rfl | rfl | rfl | rfl
  · exact absurd e (by decide)
  · exact absurd e (by decide)
  · exact absurd e (by decide)
  · exact kb_of (by decide) fun us ws h1 h2 => match us, ws, h1, h2 with | [], [_], _, _ => rfl
  · exact absurd e (by decide)
  · exact absurd e (by decide)
theorem sc_law_begun : FnScope ([("script" : Str), ("great" : Str), ("cell" : Str)] : List Str) ([("script" : Str)] : List Str) (defScope (top 28)) := ⟨rfl, rfl, rfl, by decide +kernel, rfl, by decide +kernel, by decide +kernel⟩
theorem bd_law_begun : ∀ (kV doc pm : Value) (an : Option Addr) (cdv ct : Value) (us : List Value), us.length = ([("script" : Str)] : List Str).length → bindArgs (PySem.W.fnOf ("_law_begun" : Str) ("_law_begun" : Str) (defArgs (top 28)) (defBody (top 28)) (defScope (top 28)) .none kV doc pm an cdv ct) ⟨us, []⟩ = pure (([("script" : Str)] : List Str).zip us) := fun _ _ _ _ _ _ us hl => match us, hl with | [_], _ => rfl
theorem sc_law_blended : FnScope ([("state" : Str), ("turn" : Str), ("found" : Str), ("prime" : Str), ("blend" : Str), ("cell" : Str)] : List Str) ([("state" : Str)] : List Str) (defScope (top 29)) := ⟨rfl, rfl, rfl, by decide +kernel, rfl, by decide +kernel, by decide +kernel⟩
theorem bd_law_blended : ∀ (kV doc pm : Value) (an : Option Addr) (cdv ct : Value) (us : List Value), us.length = ([("state" : Str)] : List Str).length → bindArgs (PySem.W.fnOf ("_law_blended" : Str) ("_law_blended" : Str) (defArgs (top 29)) (defBody (top 29)) (defScope (top 29)) .none kV doc pm an cdv ct) ⟨us, []⟩ = pure (([("state" : Str)] : List Str).zip us) := fun _ _ _ _ _ _ us hl => match us, hl with | [_], _ => rfl
theorem kb_law_blended {K : PySem.W.Frag} : ∀ (kV doc pm : Value) (an : Option Addr) (cdv ct : Value), ∀ p ∈ T0.kfns, p.1 = ("_law_blended" : Str) → KBinds K (PySem.W.fnOf ("_law_blended" : Str) ("_law_blended" : Str) (defArgs (top 29)) (defBody (top 29)) (defScope (top 29)) .none kV doc pm an cdv ct) ([("state" : Str)] : List Str) p.2.2.1 (permG p.2.1 p.2.2.1.length p.2.2.2) (permG p.2.1 p.2.2.1.length p.2.2.2) := by
  intro kV doc pm an cdv ct p hp e
  rcases kf_cases hp with rfl | rfl | rfl | rfl | rfl | rfl
  · exact absurd e (by decide)
  · exact absurd e (by decide)
  · exact absurd e (by decide)
  · exact absurd e (by decide)
  · exact absurd e (by decide)
  · exact absurd e (by decide)
theorem sc_law_draw : FnScope ([("state" : Str), ("room" : Str), ("found" : Str)] : List Str) ([("state" : Str), ("room" : Str)] : List Str) (defScope (top 30)) := ⟨rfl, rfl, rfl, by decide +kernel, rfl, by decide +kernel, by decide +kernel⟩
theorem bd_law_draw : ∀ (kV doc pm : Value) (an : Option Addr) (cdv ct : Value) (us : List Value), us.length = ([("state" : Str), ("room" : Str)] : List Str).length → bindArgs (PySem.W.fnOf ("_law_draw" : Str) ("_law_draw" : Str) (defArgs (top 30)) (defBody (top 30)) (defScope (top 30)) .none kV doc pm an cdv ct) ⟨us, []⟩ = pure (([("state" : Str), ("room" : Str)] : List Str).zip us) := fun _ _ _ _ _ _ us hl => match us, hl with | [_, _], _ => rfl
theorem kb_law_draw {K : PySem.W.Frag} : ∀ (kV doc pm : Value) (an : Option Addr) (cdv ct : Value), ∀ p ∈ T0.kfns, p.1 = ("_law_draw" : Str) → KBinds K (PySem.W.fnOf ("_law_draw" : Str) ("_law_draw" : Str) (defArgs (top 30)) (defBody (top 30)) (defScope (top 30)) .none kV doc pm an cdv ct) ([("state" : Str), ("room" : Str)] : List Str) p.2.2.1 (permG p.2.1 p.2.2.1.length p.2.2.2) (permG p.2.1 p.2.2.1.length p.2.2.2) := by
  intro kV doc pm an cdv ct p hp e
  rcases kf_cases hp with rfl | rfl | rfl | rfl | rfl | rfl
  · exact absurd e (by decide)
  · exact absurd e (by decide)
  · exact absurd e (by decide)
  · exact absurd e (by decide)
  · exact absurd e (by decide)
  · exact absurd e (by decide)
theorem sc_law_pick : FnScope ([("state" : Str), ("some" : Str)] : List Str) ([("state" : Str), ("some" : Str)] : List Str) (defScope (top 31)) := ⟨rfl, rfl, rfl, by decide +kernel, rfl, by decide +kernel, by decide +kernel⟩
theorem bd_law_pick : ∀ (kV doc pm : Value) (an : Option Addr) (cdv ct : Value) (us : List Value), us.length = ([("state" : Str), ("some" : Str)] : List Str).length → bindArgs (PySem.W.fnOf ("_law_pick" : Str) ("_law_pick" : Str) (defArgs (top 31)) (defBody (top 31)) (defScope (top 31)) .none kV doc pm an cdv ct) ⟨us, []⟩ = pure (([("state" : Str), ("some" : Str)] : List Str).zip us) := fun _ _ _ _ _ _ us hl => match us, hl with | [_, _], _ => rfl
theorem kb_law_pick {K : PySem.W.Frag} : ∀ (kV doc pm : Value) (an : Option Addr) (cdv ct : Value), ∀ p ∈ T0.kfns, p.1 = ("_law_pick" : Str) → KBinds K (PySem.W.fnOf ("_law_pick" : Str) ("_law_pick" : Str) (defArgs (top 31)) (defBody (top 31)) (defScope (top 31)) .none kV doc pm an cdv ct) ([("state" : Str), ("some" : Str)] : List Str) p.2.2.1 (permG p.2.1 p.2.2.1.length p.2.2.2) (permG p.2.1 p.2.2.1.length p.2.2.2) := by
  intro kV doc pm an cdv ct p hp e
  rcases kf_cases hp with rfl | rfl | rfl | rfl | rfl | rfl
  · exact absurd e (by decide)
  · exact absurd e (by decide)
  · exact absurd e (by decide)
  · exact absurd e (by decide)
  · exact absurd e (by decide)
  · exact absurd e (by decide)
theorem sc_law_caught : FnScope ([("action" : Str), ("found" : Str), ("error" : Str)] : List Str) ([("action" : Str)] : List Str) (defScope (top 32)) := ⟨rfl, rfl, rfl, by decide +kernel, rfl, by decide +kernel, by decide +kernel⟩
theorem bd_law_caught : ∀ (kV doc pm : Value) (an : Option Addr) (cdv ct : Value) (us : List Value), us.length = ([("action" : Str)] : List Str).length → bindArgs (PySem.W.fnOf ("_law_caught" : Str) ("_law_caught" : Str) (defArgs (top 32)) (defBody (top 32)) (defScope (top 32)) .none kV doc pm an cdv ct) ⟨us, []⟩ = pure (([("action" : Str)] : List Str).zip us) := fun _ _ _ _ _ _ us hl => match us, hl with | [_], _ => rfl
theorem sc_law_is_truth : FnScope ([("found" : Str), ("due" : Str)] : List Str) ([("found" : Str), ("due" : Str)] : List Str) (defScope (top 33)) := ⟨rfl, rfl, rfl, by decide +kernel, rfl, by decide +kernel, by decide +kernel⟩
theorem bd_law_is_truth : ∀ (kV doc pm : Value) (an : Option Addr) (cdv ct : Value) (us : List Value), us.length = ([("found" : Str), ("due" : Str)] : List Str).length → bindArgs (PySem.W.fnOf ("_law_is_truth" : Str) ("_law_is_truth" : Str) (defArgs (top 33)) (defBody (top 33)) (defScope (top 33)) .none kV doc pm an cdv ct) ⟨us, []⟩ = pure (([("found" : Str), ("due" : Str)] : List Str).zip us) := fun _ _ _ _ _ _ us hl => match us, hl with | [_, _], _ => rfl
theorem kb_law_is_truth {K : PySem.W.Frag} : ∀ (kV doc pm : Value) (an : Option Addr) (cdv ct : Value), ∀ p ∈ T0.kfns, p.1 = ("_law_is_truth" : Str) → KBinds K (PySem.W.fnOf ("_law_is_truth" : Str) ("_law_is_truth" : Str) (defArgs (top 33)) (defBody (top 33)) (defScope (top 33)) .none kV doc pm an cdv ct) ([("found" : Str), ("due" : Str)] : List Str) p.2.2.1 (permG p.2.1 p.2.2.1.length p.2.2.2) (permG p.2.1 p.2.2.1.length p.2.2.2) := by
  intro kV doc pm an cdv ct p hp e
  rcases kf_cases hp with rfl | rfl | rfl | rfl | rfl | rfl
  · exact absurd e (by decide)
  · exact absurd e (by decide)
  · exact absurd e (by decide)
  · exact absurd e (by decide)
  · exact absurd e (by decide)
  · exact absurd e (by decide)
theorem sc_law_same : FnScope ([("found" : Str), ("due" : Str), ("waiting" : Str), ("one" : Str), ("other" : Str), ("key" : Str), ("alike" : Str), ("left" : Str), ("right" : Str)] : List Str) ([("found" : Str), ("due" : Str)] : List Str) (defScope (top 34)) := ⟨rfl, rfl, rfl, by decide +kernel, rfl, by decide +kernel, by decide +kernel⟩
theorem bd_law_same : ∀ (kV doc pm : Value) (an : Option Addr) (cdv ct : Value) (us : List Value), us.length = ([("found" : Str), ("due" : Str)] : List Str).length → bindArgs (PySem.W.fnOf ("_law_same" : Str) ("_law_same" : Str) (defArgs (top 34)) (defBody (top 34)) (defScope (top 34)) .none kV doc pm an cdv ct) ⟨us, []⟩ = pure (([("found" : Str), ("due" : Str)] : List Str).zip us) := fun _ _ _ _ _ _ us hl => match us, hl with | [_, _], _ => rfl
theorem kb_law_same {K : PySem.W.Frag} : ∀ (kV doc pm : Value) (an : Option Addr) (cdv ct : Value), ∀ p ∈ T0.kfns, p.1 = ("_law_same" : Str) → KBinds K (PySem.W.fnOf ("_law_same" : Str) ("_law_same" : Str) (defArgs (top 34)) (defBody (top 34)) (defScope (top 34)) .none kV doc pm an cdv ct) ([("found" : Str), ("due" : Str)] : List Str) p.2.2.1 (permG p.2.1 p.2.2.1.length p.2.2.2) (permG p.2.1 p.2.2.1.length p.2.2.2) := by
  intro kV doc pm an cdv ct p hp e
  rcases kf_cases hp with rfl | rfl | rfl | rfl | rfl | rfl
  · exact absurd e (by decide)
  · exact absurd e (by decide)
  · exact absurd e (by decide)
  · exact absurd e (by decide)
  · exact absurd e (by decide)
  · exact absurd e (by decide)
theorem sc_law_q : FnScope ([("n" : Str), ("d" : Str), ("one" : Str), ("other" : Str)] : List Str) ([("n" : Str), ("d" : Str)] : List Str) (defScope (top 35)) := ⟨rfl, rfl, rfl, by decide +kernel, rfl, by decide +kernel, by decide +kernel⟩
theorem bd_law_q : ∀ (kV doc pm : Value) (an : Option Addr) (cdv ct : Value) (us : List Value), us.length = ([("n" : Str), ("d" : Str)] : List Str).length → bindArgs (PySem.W.fnOf ("_law_q" : Str) ("_law_q" : Str) (defArgs (top 35)) (defBody (top 35)) (defScope (top 35)) .none kV doc pm an cdv ct) ⟨us, []⟩ = pure (([("n" : Str), ("d" : Str)] : List Str).zip us) := fun _ _ _ _ _ _ us hl => match us, hl with | [_, _], _ => rfl
theorem kb_law_q {K : PySem.W.Frag} : ∀ (kV doc pm : Value) (an : Option Addr) (cdv ct : Value), ∀ p ∈ T0.kfns, p.1 = ("_law_q" : Str) → KBinds K (PySem.W.fnOf ("_law_q" : Str) ("_law_q" : Str) (defArgs (top 35)) (defBody (top 35)) (defScope (top 35)) .none kV doc pm an cdv ct) ([("n" : Str), ("d" : Str)] : List Str) p.2.2.1 (permG p.2.1 p.2.2.1.length p.2.2.2) (permG p.2.1 p.2.2.1.length p.2.2.2) := by
  intro kV doc pm an cdv ct p hp e
  rcases kf_cases hp with rfl | rfl | rfl | rfl | rfl | rfl
  · exact absurd e (by decide)
  · exact absurd e (by decide)
  · exact absurd e (by decide)
  · exact absurd e (by decide)
  · exact absurd e (by decide)
  · exact absurd e (by decide)
theorem sc_law_plus : FnScope ([("one" : Str), ("other" : Str)] : List Str) ([("one" : Str), ("other" : Str)] : List Str) (defScope (top 36)) := ⟨rfl, rfl, rfl, by decide +kernel, rfl, by decide +kernel, by decide +kernel⟩
theorem bd_law_plus : ∀ (kV doc pm : Value) (an : Option Addr) (cdv ct : Value) (us : List Value), us.length = ([("one" : Str), ("other" : Str)] : List Str).length → bindArgs (PySem.W.fnOf ("_law_plus" : Str) ("_law_plus" : Str) (defArgs (top 36)) (defBody (top 36)) (defScope (top 36)) .none kV doc pm an cdv ct) ⟨us, []⟩ = pure (([("one" : Str), ("other" : Str)] : List Str).zip us) := fun _ _ _ _ _ _ us hl => match us, hl with | [_, _], _ => rfl
theorem kb_law_plus {K : PySem.W.Frag} : ∀ (kV doc pm : Value) (an : Option Addr) (cdv ct : Value), ∀ p ∈ T0.kfns, p.1 = ("_law_plus" : Str) → KBinds K (PySem.W.fnOf ("_law_plus" : Str) ("_law_plus" : Str) (defArgs (top 36)) (defBody (top 36)) (defScope (top 36)) .none kV doc pm an cdv ct) ([("one" : Str), ("other" : Str)] : List Str) p.2.2.1 (permG p.2.1 p.2.2.1.length p.2.2.2) (permG p.2.1 p.2.2.1.length p.2.2.2) := by
  intro kV doc pm an cdv ct p hp e
  rcases kf_cases hp with rfl | rfl | rfl | rfl | rfl | rfl
  · exact absurd e (by decide)
  · exact absurd e (by decide)
  · exact absurd e (by decide)
  · exact absurd e (by decide)
  · exact absurd e (by decide)
  · exact absurd e (by decide)
theorem sc_law_times : FnScope ([("one" : Str), ("other" : Str)] : List Str) ([("one" : Str), ("other" : Str)] : List Str) (defScope (top 37)) := ⟨rfl, rfl, rfl, by decide +kernel, rfl, by decide +kernel, by decide +kernel⟩
theorem bd_law_times : ∀ (kV doc pm : Value) (an : Option Addr) (cdv ct : Value) (us : List Value), us.length = ([("one" : Str), ("other" : Str)] : List Str).length → bindArgs (PySem.W.fnOf ("_law_times" : Str) ("_law_times" : Str) (defArgs (top 37)) (defBody (top 37)) (defScope (top 37)) .none kV doc pm an cdv ct) ⟨us, []⟩ = pure (([("one" : Str), ("other" : Str)] : List Str).zip us) := fun _ _ _ _ _ _ us hl => match us, hl with | [_, _], _ => rfl
theorem kb_law_times {K : PySem.W.Frag} : ∀ (kV doc pm : Value) (an : Option Addr) (cdv ct : Value), ∀ p ∈ T0.kfns, p.1 = ("_law_times" : Str) → KBinds K (PySem.W.fnOf ("_law_times" : Str) ("_law_times" : Str) (defArgs (top 37)) (defBody (top 37)) (defScope (top 37)) .none kV doc pm an cdv ct) ([("one" : Str), ("other" : Str)] : List Str) p.2.2.1 (permG p.2.1 p.2.2.1.length p.2.2.2) (permG p.2.1 p.2.2.1.length p.2.2.2) := by
  intro kV doc pm an cdv ct p hp e
  rcases kf_cases hp with rfl | rfl | rfl | rfl | rfl | rfl
  · exact absurd e (by decide)
  · exact absurd e (by decide)
  · exact absurd e (by decide)
  · exact absurd e (by decide)
  · exact absurd e (by decide)
  · exact absurd e (by decide)
theorem sc_law_over : FnScope ([("one" : Str), ("other" : Str)] : List Str) ([("one" : Str), ("other" : Str)] : List Str) (defScope (top 38)) := ⟨rfl, rfl, rfl, by decide +kernel, rfl, by decide +kernel, by decide +kernel⟩
theorem bd_law_over : ∀ (kV doc pm : Value) (an : Option Addr) (cdv ct : Value) (us : List Value), us.length = ([("one" : Str), ("other" : Str)] : List Str).length → bindArgs (PySem.W.fnOf ("_law_over" : Str) ("_law_over" : Str) (defArgs (top 38)) (defBody (top 38)) (defScope (top 38)) .none kV doc pm an cdv ct) ⟨us, []⟩ = pure (([("one" : Str), ("other" : Str)] : List Str).zip us) := fun _ _ _ _ _ _ us hl => match us, hl with | [_, _], _ => rfl
theorem kb_law_over {K : PySem.W.Frag} : ∀ (kV doc pm : Value) (an : Option Addr) (cdv ct : Value), ∀ p ∈ T0.kfns, p.1 = ("_law_over" : Str) → KBinds K (PySem.W.fnOf ("_law_over" : Str) ("_law_over" : Str) (defArgs (top 38)) (defBody (top 38)) (defScope (top 38)) .none kV doc pm an cdv ct) ([("one" : Str), ("other" : Str)] : List Str) p.2.2.1 (permG p.2.1 p.2.2.1.length p.2.2.2) (permG p.2.1 p.2.2.1.length p.2.2.2) := by
  intro kV doc pm an cdv ct p hp e
  rcases kf_cases hp with rfl | rfl | rfl | rfl | rfl | rfl
  · exact absurd e (by decide)
  · exact absurd e (by decide)
  · exact absurd e (by decide)
  · exact absurd e (by decide)
  · exact absurd e (by decide)
  · exact absurd e (by decide)
theorem sc_law_less : FnScope ([("one" : Str), ("other" : Str)] : List Str) ([("one" : Str), ("other" : Str)] : List Str) (defScope (top 39)) := ⟨rfl, rfl, rfl, by decide +kernel, rfl, by decide +kernel, by decide +kernel⟩
theorem bd_law_less : ∀ (kV doc pm : Value) (an : Option Addr) (cdv ct : Value) (us : List Value), us.length = ([("one" : Str), ("other" : Str)] : List Str).length → bindArgs (PySem.W.fnOf ("_law_less" : Str) ("_law_less" : Str) (defArgs (top 39)) (defBody (top 39)) (defScope (top 39)) .none kV doc pm an cdv ct) ⟨us, []⟩ = pure (([("one" : Str), ("other" : Str)] : List Str).zip us) := fun _ _ _ _ _ _ us hl => match us, hl with | [_, _], _ => rfl
theorem kb_law_less {K : PySem.W.Frag} : ∀ (kV doc pm : Value) (an : Option Addr) (cdv ct : Value), ∀ p ∈ T0.kfns, p.1 = ("_law_less" : Str) → KBinds K (PySem.W.fnOf ("_law_less" : Str) ("_law_less" : Str) (defArgs (top 39)) (defBody (top 39)) (defScope (top 39)) .none kV doc pm an cdv ct) ([("one" : Str), ("other" : Str)] : List Str) p.2.2.1 (permG p.2.1 p.2.2.1.length p.2.2.2) (permG p.2.1 p.2.2.1.length p.2.2.2) := by
  intro kV doc pm an cdv ct p hp e
  rcases kf_cases hp with rfl | rfl | rfl | rfl | rfl | rfl
  · exact absurd e (by decide)
  · exact absurd e (by decide)
  · exact absurd e (by decide)
  · exact absurd e (by decide)
  · exact absurd e (by decide)
  · exact absurd e (by decide)
theorem sc_law_sum : FnScope ([("some" : Str), ("found" : Str), ("each" : Str)] : List Str) ([("some" : Str)] : List Str) (defScope (top 40)) := ⟨rfl, rfl, rfl, by decide +kernel, rfl, by decide +kernel, by decide +kernel⟩
theorem bd_law_sum : ∀ (kV doc pm : Value) (an : Option Addr) (cdv ct : Value) (us : List Value), us.length = ([("some" : Str)] : List Str).length → bindArgs (PySem.W.fnOf ("_law_sum" : Str) ("_law_sum" : Str) (defArgs (top 40)) (defBody (top 40)) (defScope (top 40)) .none kV doc pm an cdv ct) ⟨us, []⟩ = pure (([("some" : Str)] : List Str).zip us) := fun _ _ _ _ _ _ us hl => match us, hl with | [_], _ => rfl
theorem kb_law_sum {K : PySem.W.Frag} : ∀ (kV doc pm : Value) (an : Option Addr) (cdv ct : Value), ∀ p ∈ T0.kfns, p.1 = ("_law_sum" : Str) → KBinds K (PySem.W.fnOf ("_law_sum" : Str) ("_law_sum" : Str) (defArgs (top 40)) (defBody (top 40)) (defScope (top 40)) .none kV doc pm an cdv ct) ([("some" : Str)] : List Str) p.2.2.1 (permG p.2.1 p.2.2.1.length p.2.2.2) (permG p.2.1 p.2.2.1.length p.2.2.2) := by
  intro kV doc pm an cdv ct p hp e
  rcases kf_cases hp with rfl | rfl | rfl | rfl | rfl | rfl
  · exact absurd e (by decide)
  · exact absurd e (by decide)
  · exact absurd e (by decide)
  · exact absurd e (by decide)
  · exact absurd e (by decide)
  · exact absurd e (by decide)
theorem sc_law_words : FnScope ([("draws" : Str), ("many" : Str), ("found" : Str), ("word" : Str), ("lap" : Str)] : List Str) ([("draws" : Str), ("many" : Str)] : List Str) (defScope (top 41)) := ⟨rfl, rfl, rfl, by decide +kernel, rfl, by decide +kernel, by decide +kernel⟩
theorem bd_law_words : ∀ (kV doc pm : Value) (an : Option Addr) (cdv ct : Value) (us : List Value), us.length = ([("draws" : Str), ("many" : Str)] : List Str).length → bindArgs (PySem.W.fnOf ("_law_words" : Str) ("_law_words" : Str) (defArgs (top 41)) (defBody (top 41)) (defScope (top 41)) .none kV doc pm an cdv ct) ⟨us, []⟩ = pure (([("draws" : Str), ("many" : Str)] : List Str).zip us) := fun _ _ _ _ _ _ us hl => match us, hl with | [_, _], _ => rfl
theorem kb_law_words {K : PySem.W.Frag} : ∀ (kV doc pm : Value) (an : Option Addr) (cdv ct : Value), ∀ p ∈ T0.kfns, p.1 = ("_law_words" : Str) → KBinds K (PySem.W.fnOf ("_law_words" : Str) ("_law_words" : Str) (defArgs (top 41)) (defBody (top 41)) (defScope (top 41)) .none kV doc pm an cdv ct) ([("draws" : Str), ("many" : Str)] : List Str) p.2.2.1 (permG p.2.1 p.2.2.1.length p.2.2.2) (permG p.2.1 p.2.2.1.length p.2.2.2) := by
  intro kV doc pm an cdv ct p hp e
  rcases kf_cases hp with rfl | rfl | rfl | rfl | rfl | rfl
  · exact absurd e (by decide)
  · exact absurd e (by decide)
  · exact absurd e (by decide)
  · exact absurd e (by decide)
  · exact absurd e (by decide)
  · exact absurd e (by decide)
theorem sc_law_weights : FnScope ([("draws" : Str), ("many" : Str), ("top" : Str), ("found" : Str), ("lap" : Str)] : List Str) ([("draws" : Str), ("many" : Str), ("top" : Str)] : List Str) (defScope (top 42)) := ⟨rfl, rfl, rfl, by decide +kernel, rfl, by decide +kernel, by decide +kernel⟩
theorem bd_law_weights : ∀ (kV doc pm : Value) (an : Option Addr) (cdv ct : Value) (us : List Value), us.length = ([("draws" : Str), ("many" : Str), ("top" : Str)] : List Str).length → bindArgs (PySem.W.fnOf ("_law_weights" : Str) ("_law_weights" : Str) (defArgs (top 42)) (defBody (top 42)) (defScope (top 42)) .none kV doc pm an cdv ct) ⟨us, []⟩ = pure (([("draws" : Str), ("many" : Str), ("top" : Str)] : List Str).zip us) := fun _ _ _ _ _ _ us hl => match us, hl with | [_, _, _], _ => rfl
theorem kb_law_weights {K : PySem.W.Frag} : ∀ (kV doc pm : Value) (an : Option Addr) (cdv ct : Value), ∀ p ∈ T0.kfns, p.1 = ("_law_weights" : Str) → KBinds K (PySem.W.fnOf ("_law_weights" : Str) ("_law_weights" : Str) (defArgs (top 42)) (defBody (top 42)) (defScope (top 42)) .none kV doc pm an cdv ct) ([("draws" : Str), ("many" : Str), ("top" : Str)] : List Str) p.2.2.1 (permG p.2.1 p.2.2.1.length p.2.2.2) (permG p.2.1 p.2.2.1.length p.2.2.2) := by
  intro kV doc pm an cdv ct p hp e
  rcases kf_cases hp with rfl | rfl | rfl | rfl | rfl | rfl
  · exact absurd e (by decide)
  · exact absurd e (by decide)
  · exact absurd e (by decide)
  · exact absurd e (by decide)
  · exact absurd e (by decide)
  · exact absurd e (by decide)
theorem sc_law_shares : FnScope ([("draws" : Str), ("many" : Str), ("found" : Str), ("each" : Str)] : List Str) ([("draws" : Str), ("many" : Str)] : List Str) (defScope (top 43)) := ⟨rfl, rfl, rfl, by decide +kernel, rfl, by decide +kernel, by decide +kernel⟩
theorem bd_law_shares : ∀ (kV doc pm : Value) (an : Option Addr) (cdv ct : Value) (us : List Value), us.length = ([("draws" : Str), ("many" : Str)] : List Str).length → bindArgs (PySem.W.fnOf ("_law_shares" : Str) ("_law_shares" : Str) (defArgs (top 43)) (defBody (top 43)) (defScope (top 43)) .none kV doc pm an cdv ct) ⟨us, []⟩ = pure (([("draws" : Str), ("many" : Str)] : List Str).zip us) := fun _ _ _ _ _ _ us hl => match us, hl with | [_, _], _ => rfl
theorem kb_law_shares {K : PySem.W.Frag} : ∀ (kV doc pm : Value) (an : Option Addr) (cdv ct : Value), ∀ p ∈ T0.kfns, p.1 = ("_law_shares" : Str) → KBinds K (PySem.W.fnOf ("_law_shares" : Str) ("_law_shares" : Str) (defArgs (top 43)) (defBody (top 43)) (defScope (top 43)) .none kV doc pm an cdv ct) ([("draws" : Str), ("many" : Str)] : List Str) p.2.2.1 (permG p.2.1 p.2.2.1.length p.2.2.2) (permG p.2.1 p.2.2.1.length p.2.2.2) := by
  intro kV doc pm an cdv ct p hp e
  rcases kf_cases hp with rfl | rfl | rfl | rfl | rfl | rfl
  · exact absurd e (by decide)
  · exact absurd e (by decide)
  · exact absurd e (by decide)
  · exact absurd e (by decide)
  · exact absurd e (by decide)
  · exact absurd e (by decide)
theorem sc_law_number : FnScope ([("draws" : Str), ("size" : Str), ("n" : Str), ("d" : Str)] : List Str) ([("draws" : Str), ("size" : Str)] : List Str) (defScope (top 44)) := ⟨rfl, rfl, rfl, by decide +kernel, rfl, by decide +kernel, by decide +kernel⟩
theorem bd_law_number : ∀ (kV doc pm : Value) (an : Option Addr) (cdv ct : Value) (us : List Value), us.length = ([("draws" : Str), ("size" : Str)] : List Str).length → bindArgs (PySem.W.fnOf ("_law_number" : Str) ("_law_number" : Str) (defArgs (top 44)) (defBody (top 44)) (defScope (top 44)) .none kV doc pm an cdv ct) ⟨us, []⟩ = pure (([("draws" : Str), ("size" : Str)] : List Str).zip us) := fun _ _ _ _ _ _ us hl => match us, hl with | [_, _], _ => rfl
theorem kb_law_number {K : PySem.W.Frag} : ∀ (kV doc pm : Value) (an : Option Addr) (cdv ct : Value), ∀ p ∈ T0.kfns, p.1 = ("_law_number" : Str) → KBinds K (PySem.W.fnOf ("_law_number" : Str) ("_law_number" : Str) (defArgs (top 44)) (defBody (top 44)) (defScope (top 44)) .none kV doc pm an cdv ct) ([("draws" : Str), ("size" : Str)] : List Str) p.2.2.1 (permG p.2.1 p.2.2.1.length p.2.2.2) (permG p.2.1 p.2.2.1.length p.2.2.2) := by
  intro kV doc pm an cdv ct p hp e
  rcases kf_cases hp with rfl | rfl | rfl | rfl | rfl | rfl
  · exact absurd e (by decide)
  · exact absurd e (by decide)
  · exact absurd e (by decide)
  · exact absurd e (by decide)
  · exact absurd e (by decide)
  · exact absurd e (by decide)
theorem sc_law_is_ratio : FnScope ([("value" : Str), ("part" : Str)] : List Str) ([("value" : Str)] : List Str) (defScope (top 45)) := ⟨rfl, rfl, rfl, by decide +kernel, rfl, by decide +kernel, by decide +kernel⟩
theorem bd_law_is_ratio : ∀ (kV doc pm : Value) (an : Option Addr) (cdv ct : Value) (us : List Value), us.length = ([("value" : Str)] : List Str).length → bindArgs (PySem.W.fnOf ("_law_is_ratio" : Str) ("_law_is_ratio" : Str) (defArgs (top 45)) (defBody (top 45)) (defScope (top 45)) .none kV doc pm an cdv ct) ⟨us, []⟩ = pure (([("value" : Str)] : List Str).zip us) := fun _ _ _ _ _ _ us hl => match us, hl with | [_], _ => rfl
theorem kb_law_is_ratio {K : PySem.W.Frag} : ∀ (kV doc pm : Value) (an : Option Addr) (cdv ct : Value), ∀ p ∈ T0.kfns, p.1 = ("_law_is_ratio" : Str) → KBinds K (PySem.W.fnOf ("_law_is_ratio" : Str) ("_law_is_ratio" : Str) (defArgs (top 45)) (defBody (top 45)) (defScope (top 45)) .none kV doc pm an cdv ct) ([("value" : Str)] : List Str) p.2.2.1 (permG p.2.1 p.2.2.1.length p.2.2.2) (permG p.2.1 p.2.2.1.length p.2.2.2) := by
  intro kV doc pm an cdv ct p hp e
  rcases kf_cases hp with rfl | rfl | rfl | rfl | rfl | rfl
  · exact absurd e (by decide)
  · exact absurd e (by decide)
  · exact absurd e (by decide)
  · exact absurd e (by decide)
  · exact absurd e (by decide)
  · exact absurd e (by decide)
theorem sc_law_is_word : FnScope ([("value" : Str), ("letter" : Str)] : List Str) ([("value" : Str)] : List Str) (defScope (top 46)) := ⟨rfl, rfl, rfl, by decide +kernel, rfl, by decide +kernel, by decide +kernel⟩
theorem bd_law_is_word : ∀ (kV doc pm : Value) (an : Option Addr) (cdv ct : Value) (us : List Value), us.length = ([("value" : Str)] : List Str).length → bindArgs (PySem.W.fnOf ("_law_is_word" : Str) ("_law_is_word" : Str) (defArgs (top 46)) (defBody (top 46)) (defScope (top 46)) .none kV doc pm an cdv ct) ⟨us, []⟩ = pure (([("value" : Str)] : List Str).zip us) := fun _ _ _ _ _ _ us hl => match us, hl with | [_], _ => rfl
theorem kb_law_is_word {K : PySem.W.Frag} : ∀ (kV doc pm : Value) (an : Option Addr) (cdv ct : Value), ∀ p ∈ T0.kfns, p.1 = ("_law_is_word" : Str) → KBinds K (PySem.W.fnOf ("_law_is_word" : Str) ("_law_is_word" : Str) (defArgs (top 46)) (defBody (top 46)) (defScope (top 46)) .none kV doc pm an cdv ct) ([("value" : Str)] : List Str) p.2.2.1 (permG p.2.1 p.2.2.1.length p.2.2.2) (permG p.2.1 p.2.2.1.length p.2.2.2) := by
  intro kV doc pm an cdv ct p hp e
  rcases kf_cases hp with rfl | rfl | rfl | rfl | rfl | rfl
  · exact absurd e (by decide)
  · exact absurd e (by decide)
  · exact absurd e (by decide)
  · exact absurd e (by decide)
  · exact absurd e (by decide)
  · exact absurd e (by decide)
theorem sc_law_means_right : FnScope ([("draws" : Str), ("shares" : Str), ("some" : Str), ("share" : Str), ("due" : Str), ("one" : Str), ("odd" : Str)] : List Str) ([("draws" : Str)] : List Str) (defScope (top 47)) := ⟨rfl, rfl, rfl, by decide +kernel, rfl, by decide +kernel, by decide +kernel⟩
theorem bd_law_means_right : ∀ (kV doc pm : Value) (an : Option Addr) (cdv ct : Value) (us : List Value), us.length = ([("draws" : Str)] : List Str).length → bindArgs (PySem.W.fnOf ("_law_means_right" : Str) ("_law_means_right" : Str) (defArgs (top 47)) (defBody (top 47)) (defScope (top 47)) .none kV doc pm an cdv ct) ⟨us, []⟩ = pure (([("draws" : Str)] : List Str).zip us) := fun _ _ _ _ _ _ us hl => match us, hl with | [_], _ => rfl
theorem kb_law_means_right {K : PySem.W.Frag} : ∀ (kV doc pm : Value) (an : Option Addr) (cdv ct : Value), ∀ p ∈ T0.kfns, p.1 = ("_law_means_right" : Str) → KBinds K (PySem.W.fnOf ("_law_means_right" : Str) ("_law_means_right" : Str) (defArgs (top 47)) (defBody (top 47)) (defScope (top 47)) .none kV doc pm an cdv ct) ([("draws" : Str)] : List Str) p.2.2.1 (permG p.2.1 p.2.2.1.length p.2.2.2) (permG p.2.1 p.2.2.1.length p.2.2.2) := by
  intro kV doc pm an cdv ct p hp e
  rcases kf_cases hp with rfl | rfl | rfl | rfl | rfl | rfl
  · exact absurd e (by decide)
  · exact absurd e (by decide)
  · exact absurd e (by decide)
  · exact absurd e (by decide)
  · exact absurd e (by decide)
  · exact absurd e (by decide)
theorem sc_law : FnScope ([("script" : Str), ("draws" : Str), ("tiny" : Str), ("lap" : Str), ("turn" : Str), ("n" : Str), ("d" : Str), ("own" : Str), ("value" : Str), ("due" : Str), ("chance" : Str), ("other" : Str), ("word" : Str), ("error" : Str), ("work" : Str)] : List Str) ([("script" : Str)] : List Str) (defScope (top 48)) := ⟨rfl, rfl, rfl, by decide +kernel, rfl, by decide +kernel, by decide +kernel⟩
theorem bd_law : ∀ (kV doc pm : Value) (an : Option Addr) (cdv ct : Value) (us : List Value), us.length = ([("script" : Str)] : List Str).length → bindArgs (PySem.W.fnOf ("law" : Str) ("law" : Str) (defArgs (top 48)) (defBody (top 48)) (defScope (top 48)) .none kV doc pm an cdv ct) ⟨us, []⟩ = pure (([("script" : Str)] : List Str).zip us) := fun _ _ _ _ _ _ us hl => match us, hl with | [_], _ => rfl
theorem fn_cases {x : Str} (hx : T0.fns.contains x = true) : x = ("is_whole" : Str) ∨ x = ("is_ratio" : Str) ∨ x = ("is_chance" : Str) ∨ x = ("lowest" : Str) ∨ x = ("plus" : Str) ∨ x = ("times" : Str) ∨ x = ("is_less" : Str) ∨ x = ("total" : Str) ∨ x = ("is_below" : Str) ∨ x = ("ratio" : Str) ∨ x = ("are_shares" : Str) ∨ x = ("need_shares" : Str) ∨ x = ("mean_of" : Str) ∨ x = ("mean" : Str) ∨ x = ("is_word" : Str) ∨ x = ("_law_blended" : Str) ∨ x = ("_law_draw" : Str) ∨ x = ("_law_pick" : Str) ∨ x = ("_law_is_truth" : Str) ∨ x = ("_law_same" : Str) ∨ x = ("_law_q" : Str) ∨ x = ("_law_plus" : Str) ∨ x = ("_law_times" : Str) ∨ x = ("_law_over" : Str) ∨ x = ("_law_less" : Str) ∨ x = ("_law_sum" : Str) ∨ x = ("_law_words" : Str) ∨ x = ("_law_weights" : Str) ∨ x = ("_law_shares" : Str) ∨ x = ("_law_number" : Str) ∨ x = ("_law_is_ratio" : Str) ∨ x = ("_law_is_word" : Str) ∨ x = ("_law_means_right" : Str) := by
  have h := List.contains_iff_mem.mp hx
  simpa only [T0, List.mem_cons, List.not_mem_nil, or_false] using h
structure Facts (K : PySem.W.Frag) (ts : List Addr) : Prop where
  tx : TxK K ts T0 lams subs flds cons
  d10 : ∃ f cdv, FK K ("is_whole" : Str) (top 10) f cdv
  d11 : ∃ f cdv, FK K ("is_ratio" : Str) (top 11) f cdv
  d12 : ∃ f cdv, FK K ("is_chance" : Str) (top 12) f cdv
  d13 : ∃ f cdv, FK K ("lowest" : Str) (top 13) f cdv
  d14 : ∃ f cdv, FK K ("plus" : Str) (top 14) f cdv
  d15 : ∃ f cdv, FK K ("times" : Str) (top 15) f cdv
  d16 : ∃ f cdv, FK K ("is_less" : Str) (top 16) f cdv
  d17 : ∃ f cdv, FK K ("total" : Str) (top 17) f cdv
  d18 : ∃ f cdv, FK K ("is_below" : Str) (top 18) f cdv
  d19 : ∃ f cdv, FK K ("ratio" : Str) (top 19) f cdv
  d20 : ∃ f cdv, FK K ("are_shares" : Str) (top 20) f cdv
  d21 : ∃ f cdv, FK K ("need_shares" : Str) (top 21) f cdv
  d22 : ∃ f cdv, FK K ("mean_of" : Str) (top 22) f cdv
  d23 : ∃ f cdv, FK K ("mean" : Str) (top 23) f cdv
  d26 : ∃ f cdv, FK K ("is_word" : Str) (top 26) f cdv
  d28 : ∃ f cdv, FK K ("_law_begun" : Str) (top 28) f cdv
  d29 : ∃ f cdv, FK K ("_law_blended" : Str) (top 29) f cdv
  d30 : ∃ f cdv, FK K ("_law_draw" : Str) (top 30) f cdv
  d31 : ∃ f cdv, FK K ("_law_pick" : Str) (top 31) f cdv
  d32 : ∃ f cdv, FK K ("_law_caught" : Str) (top 32) f cdv
  d33 : ∃ f cdv, FK K ("_law_is_truth" : Str) (top 33) f cdv
  d34 : ∃ f cdv, FK K ("_law_same" : Str) (top 34) f cdv
  d35 : ∃ f cdv, FK K ("_law_q" : Str) (top 35) f cdv
  d36 : ∃ f cdv, FK K ("_law_plus" : Str) (top 36) f cdv
  d37 : ∃ f cdv, FK K ("_law_times" : Str) (top 37) f cdv
  d38 : ∃ f cdv, FK K ("_law_over" : Str) (top 38) f cdv
  d39 : ∃ f cdv, FK K ("_law_less" : Str) (top 39) f cdv
  d40 : ∃ f cdv, FK K ("_law_sum" : Str) (top 40) f cdv
  d41 : ∃ f cdv, FK K ("_law_words" : Str) (top 41) f cdv
  d42 : ∃ f cdv, FK K ("_law_weights" : Str) (top 42) f cdv
  d43 : ∃ f cdv, FK K ("_law_shares" : Str) (top 43) f cdv
  d44 : ∃ f cdv, FK K ("_law_number" : Str) (top 44) f cdv
  d45 : ∃ f cdv, FK K ("_law_is_ratio" : Str) (top 45) f cdv
  d46 : ∃ f cdv, FK K ("_law_is_word" : Str) (top 46) f cdv
  d47 : ∃ f cdv, FK K ("_law_means_right" : Str) (top 47) f cdv
  d48 : ∃ f cdv, FK K ("law" : Str) (top 48) f cdv
  x_BadNumber : ∃ fI fd, XF prg K (clAt K ("BadNumber" : Str)) ("BadNumber" : Str) ("part" : Str) fI fd
section
variable {W : Wd} {w : World} {K : PySem.W.Frag} {ts : List Addr} {mg : Str → Option Value} {base h : Heap}
theorem cg (E : Facts K ts) (X : K.In h) (Gs : h.Ns mainGlobals mg) : ∃ (g : Addr) (st : Stmt) (fd : FuncData), CgDef K mg (clAt K "StepError") st g fd := by
  obtain ⟨f, cdv, F⟩ := E.d32
  obtain ⟨oc, od, an, kV, doc, pm, ct, osl, l⟩ := F.ex
  exact ⟨f, top 32, _, fun_mk l F.cd F.kp, sc_law_caught, rfl, rfl, rfl, rfl, ⟨_, _, _, _, _, _, _, _, _, _, _, _, _, _, _, rfl⟩, .all (bd_law_caught kV doc pm an cdv ct), PySem.W.mg_of X Gs F.ns, PySem.W.mg_of X Gs (E.tx.cls (bods := bods) (c := "StepError") (by decide +kernel)).1⟩
theorem txt (E : Facts K ts) (X : K.In h) (Gs : h.Ns mainGlobals mg) (TB : ∀ p ∈ csK K lams, TabB base mg p.1 p.2) (hK : W.K = K) (hA : W.exA = exAK K subs) (hF : W.exF = exFK flds) (hT : W.tabs = tabsK K lams) (hno : ∀ o t c, ¬ W.cloA o t c) : Txt W T0 tbl prg w K mg base := by
  refine txt_mk E.tx X Gs hK hA hF hno (fun p hp => ?_) (fun x hx => ?_) (cg E X Gs) (fun x f hx hf => ?_)
  · have z : T0.kfns.all (fun p => T0.fns.contains p.1) = true := by decide +kernel
    exact List.all_eq_true.mp z p hp
  · rcases fn_cases hx with rfl | rfl | rfl | rfl | rfl | rfl | rfl | rfl | rfl | rfl | rfl | rfl | rfl | rfl | rfl | rfl | rfl | rfl | rfl | rfl | rfl | rfl | rfl | rfl | rfl | rfl | rfl | rfl | rfl | rfl | rfl | rfl | rfl
    · obtain ⟨f, cdv, F⟩ := E.d10
      exact def_in F (PySem.W.mg_of X Gs F.ns) sc_is_whole (lam := false) (fun z => nomatch (show false = true from z)) bd_is_whole kb_is_whole tr_is_whole (by rfl)
    · obtain ⟨f, cdv, F⟩ := E.d11
      exact def_in F (PySem.W.mg_of X Gs F.ns) sc_is_ratio (lam := false) (fun z => nomatch (show false = true from z)) bd_is_ratio kb_is_ratio tr_is_ratio (by rfl)
    · obtain ⟨f, cdv, F⟩ := E.d12
      exact def_in F (PySem.W.mg_of X Gs F.ns) sc_is_chance (lam := false) (fun z => nomatch (show false = true from z)) bd_is_chance kb_is_chance tr_is_chance (by rfl)
    · obtain ⟨f, cdv, F⟩ := E.d13
      exact def_in F (PySem.W.mg_of X Gs F.ns) sc_lowest (lam := false) (fun z => nomatch (show false = true from z)) bd_lowest kb_lowest tr_lowest (by rfl)
    · obtain ⟨f, cdv, F⟩ := E.d14
      exact def_in F (PySem.W.mg_of X Gs F.ns) sc_plus (lam := false) (fun z => nomatch (show false = true from z)) bd_plus kb_plus tr_plus (by rfl)
    · obtain ⟨f, cdv, F⟩ := E.d15
      exact def_in F (PySem.W.mg_of X Gs F.ns) sc_times (lam := false) (fun z => nomatch (show false = true from z)) bd_times kb_times tr_times (by rfl)
    · obtain ⟨f, cdv, F⟩ := E.d16
      exact def_in F (PySem.W.mg_of X Gs F.ns) sc_is_less (lam := false) (fun z => nomatch (show false = true from z)) bd_is_less kb_is_less tr_is_less (by rfl)
    · obtain ⟨f, cdv, F⟩ := E.d17
      exact def_in F (PySem.W.mg_of X Gs F.ns) sc_total (lam := false) (fun z => nomatch (show false = true from z)) bd_total kb_total tr_total (by rfl)
    · obtain ⟨f, cdv, F⟩ := E.d18
      exact def_in F (PySem.W.mg_of X Gs F.ns) sc_is_below (lam := false) (fun z => nomatch (show false = true from z)) bd_is_below kb_is_below tr_is_below (by rfl)
    · obtain ⟨f, cdv, F⟩ := E.d19
      exact def_in F (PySem.W.mg_of X Gs F.ns) sc_ratio (lam := false) (fun z => nomatch (show false = true from z)) bd_ratio kb_ratio tr_ratio (by rfl)
    · obtain ⟨f, cdv, F⟩ := E.d20
      exact def_in F (PySem.W.mg_of X Gs F.ns) sc_are_shares (lam := false) (fun z => nomatch (show false = true from z)) bd_are_shares kb_are_shares tr_are_shares (by rfl)
    · obtain ⟨f, cdv, F⟩ := E.d21
      exact def_in F (PySem.W.mg_of X Gs F.ns) sc_need_shares (lam := false) (fun z => nomatch (show false = true from z)) bd_need_shares kb_need_shares tr_need_shares (by rfl)
    · obtain ⟨f, cdv, F⟩ := E.d22
      exact def_in F (PySem.W.mg_of X Gs F.ns) sc_mean_of (lam := false) (fun z => nomatch (show false = true from z)) bd_mean_of kb_mean_of tr_mean_of (by rfl)
    · obtain ⟨f, cdv, F⟩ := E.d23
      exact def_in F (PySem.W.mg_of X Gs F.ns) sc_mean (lam := false) (fun z => nomatch (show false = true from z)) bd_mean kb_mean tr_mean (by rfl)
    · obtain ⟨f, cdv, F⟩ := E.d26
      exact def_in F (PySem.W.mg_of X Gs F.ns) sc_is_word (lam := false) (fun z => nomatch (show false = true from z)) bd_is_word kb_is_word tr_is_word (by rfl)
    · obtain ⟨f, cdv, F⟩ := E.d29
      exact def_in F (PySem.W.mg_of X Gs F.ns) sc_law_blended (lam := false) (fun z => nomatch (show false = true from z)) bd_law_blended kb_law_blended tr_law_blended (by rfl)
    · obtain ⟨f, cdv, F⟩ := E.d30
      exact def_in F (PySem.W.mg_of X Gs F.ns) sc_law_draw (lam := false) (fun z => nomatch (show false = true from z)) bd_law_draw kb_law_draw tr_law_draw (by rfl)
    · obtain ⟨f, cdv, F⟩ := E.d31
      exact def_in F (PySem.W.mg_of X Gs F.ns) sc_law_pick (lam := false) (fun z => nomatch (show false = true from z)) bd_law_pick kb_law_pick tr_law_pick (by rfl)
    · obtain ⟨f, cdv, F⟩ := E.d33
      exact def_in F (PySem.W.mg_of X Gs F.ns) sc_law_is_truth (lam := false) (fun z => nomatch (show false = true from z)) bd_law_is_truth kb_law_is_truth tr_law_is_truth (by rfl)
    · obtain ⟨f, cdv, F⟩ := E.d34
      exact def_in F (PySem.W.mg_of X Gs F.ns) sc_law_same (lam := false) (fun z => nomatch (show false = true from z)) bd_law_same kb_law_same tr_law_same (by rfl)
    · obtain ⟨f, cdv, F⟩ := E.d35
      exact def_in F (PySem.W.mg_of X Gs F.ns) sc_law_q (lam := false) (fun z => nomatch (show false = true from z)) bd_law_q kb_law_q tr_law_q (by rfl)
    · obtain ⟨f, cdv, F⟩ := E.d36
      exact def_in F (PySem.W.mg_of X Gs F.ns) sc_law_plus (lam := false) (fun z => nomatch (show false = true from z)) bd_law_plus kb_law_plus tr_law_plus (by rfl)
    · obtain ⟨f, cdv, F⟩ := E.d37
      exact def_in F (PySem.W.mg_of X Gs F.ns) sc_law_times (lam := false) (fun z => nomatch (show false = true from z)) bd_law_times kb_law_times tr_law_times (by rfl)
    · obtain ⟨f, cdv, F⟩ := E.d38
      exact def_in F (PySem.W.mg_of X Gs F.ns) sc_law_over (lam := false) (fun z => nomatch (show false = true from z)) bd_law_over kb_law_over tr_law_over (by rfl)
    · obtain ⟨f, cdv, F⟩ := E.d39
      exact def_in F (PySem.W.mg_of X Gs F.ns) sc_law_less (lam := false) (fun z => nomatch (show false = true from z)) bd_law_less kb_law_less tr_law_less (by rfl)
    · obtain ⟨f, cdv, F⟩ := E.d40
      exact def_in F (PySem.W.mg_of X Gs F.ns) sc_law_sum (lam := false) (fun z => nomatch (show false = true from z)) bd_law_sum kb_law_sum tr_law_sum (by rfl)
    · obtain ⟨f, cdv, F⟩ := E.d41
      exact def_in F (PySem.W.mg_of X Gs F.ns) sc_law_words (lam := false) (fun z => nomatch (show false = true from z)) bd_law_words kb_law_words tr_law_words (by rfl)
    · obtain ⟨f, cdv, F⟩ := E.d42
      exact def_in F (PySem.W.mg_of X Gs F.ns) sc_law_weights (lam := false) (fun z => nomatch (show false = true from z)) bd_law_weights kb_law_weights tr_law_weights (by rfl)
    · obtain ⟨f, cdv, F⟩ := E.d43
      exact def_in F (PySem.W.mg_of X Gs F.ns) sc_law_shares (lam := false) (fun z => nomatch (show false = true from z)) bd_law_shares kb_law_shares tr_law_shares (by rfl)
    · obtain ⟨f, cdv, F⟩ := E.d44
      exact def_in F (PySem.W.mg_of X Gs F.ns) sc_law_number (lam := false) (fun z => nomatch (show false = true from z)) bd_law_number kb_law_number tr_law_number (by rfl)
    · obtain ⟨f, cdv, F⟩ := E.d45
      exact def_in F (PySem.W.mg_of X Gs F.ns) sc_law_is_ratio (lam := false) (fun z => nomatch (show false = true from z)) bd_law_is_ratio kb_law_is_ratio tr_law_is_ratio (by rfl)
    · obtain ⟨f, cdv, F⟩ := E.d46
      exact def_in F (PySem.W.mg_of X Gs F.ns) sc_law_is_word (lam := false) (fun z => nomatch (show false = true from z)) bd_law_is_word kb_law_is_word tr_law_is_word (by rfl)
    · obtain ⟨f, cdv, F⟩ := E.d47
      exact def_in F (PySem.W.mg_of X Gs F.ns) sc_law_means_right (fun _ => E.tx.lam (x := ("_law_means_right" : Str)) (by decide +kernel) F hT TB) bd_law_means_right kb_law_means_right tr_law_means_right (by rfl)
  · unfold exFK at hf
    have z := hf
    simp only [flds, List.mem_cons, List.not_mem_nil, or_false, Prod.mk.injEq, List.cons.injEq, and_true] at z
    obtain ⟨rfl, rfl⟩ := z
    exact E.x_BadNumber
theorem law_fn {fa : Addr} (E : Facts K ts) (X : K.In h) (Gs : h.Ns mainGlobals mg) (hfa : mg "law" = some (.ref fa)) : ∃ fd : FuncData, (∀ (s : Shared) (u : Value), BindsTo s fd ⟨[u], []⟩ [("script", u)]) ∧ ∀ base : Heap, (∀ p ∈ csK K lams, TabB base mg p.1 p.2) →
    FnOk prg w K mg base (L2.CX prg w) (3 * 12 + 3) fa fd ["script"] (spLaw K (tabsK K lams) (gAt tbl 12) 15 t_law) := by
  obtain ⟨f, cdv, F⟩ := E.d48
  obtain ⟨oc, od, an, kV, doc, pm, ct, osl, l⟩ := F.ex
  obtain ⟨fb, cdb, Fb⟩ := E.d28
  obtain ⟨oc2, od2, an2, kV2, doc2, pm2, ct2, osl2, l2⟩ := Fb.ex
  have e := hfa.symm.trans (PySem.W.mg_of X Gs F.ns)
  cases e
  refine ⟨_, fun s u => .of_eq (bd_law kV doc pm an cdv ct [u] rfl), fun base TB => ?_⟩
  have B0 : Glb (W0 K (tabsK K lams) (exAK K subs) (exFK flds)) (T0.loc ([("script" : Str), ("great" : Str), ("cell" : Str)] : List Str) [1] false false false []) (gAt tbl 0) (3 * 0) prg w K mg base := (txt E X Gs TB rfl rfl rfl rfl (fun _ _ _ z => z)).at 0 _ _ _ _ _ _
  have fb1 := begun_ok B0 l2 Fb.cd rfl rfl sc_law_begun rfl (by rfl) rfl (by kernel_rfl) (by kernel_rfl)
  exact law_ok (T := T0.loc ([("script" : Str), ("draws" : Str), ("tiny" : Str), ("lap" : Str), ("turn" : Str), ("n" : Str), ("d" : Str), ("own" : Str), ("value" : Str), ("due" : Str), ("chance" : Str), ("other" : Str), ("word" : Str), ("error" : Str), ("work" : Str)] : List Str) [] true false true []) (fun Sd L Ca cells => (txt E X Gs TB rfl rfl rfl rfl (fun _ _ _ z => z)).at 12 _ _ _ _ _ _) (fb1.mono (by decide)) (PySem.W.mg_of X Gs Fb.ns) Fb.kp (.all (bd_law_begun kV2 doc2 pm2 an2 cdb ct2)) l F.cd (fun _ => E.tx.lam (x := "law") (by decide +kernel) F rfl TB) sc_law rfl rfl rfl (by decide +kernel) (by decide +kernel) (by decide +kernel) (by rfl) tr_law
end
theorem fin {w : World} {K : PySem.W.Frag} {ts : List Addr} {mg : Str → Option Value} {h : Heap} {fa : Addr} (E : Facts K ts) (X : K.In h) (Gs : h.Ns mainGlobals mg) (hfa : mg "law" = some (.ref fa)) (hts : ∀ P ∈ ts, h.get? P = some (PySem.W.tabObj #[])) :
    LawAtS PySem.Challenge.rw_drawnsteps_k00_words_and_ratios w K (L2.CX prg w) (3 * 12 + 3) 63 "script" mg fa h := by
  obtain ⟨fd, hb, hF⟩ := law_fn (w := w) E X Gs hfa
  exact law_at E.tx X Gs hts (by decide) (N := ([("script" : Str), ("draws" : Str), ("tiny" : Str), ("lap" : Str), ("turn" : Str), ("n" : Str), ("d" : Str), ("own" : Str), ("value" : Str), ("due" : Str), ("chance" : Str), ("other" : Str), ("word" : Str), ("error" : Str), ("work" : Str)] : List Str)) main hb fun base _ _ TB => hF base TB
end K00
open Ev
open PySem PySem.W PyProof.Rows
set_option maxHeartbeats 0 in
theorem PySem.Challenge.cw_drawnsteps_k00_words_and_ratios_holds : PySem.Challenge.rw_drawnsteps_k00_words_and_ratios.Holds := by
  w_on; o_law; k_head; (case hw => w_witness2)
  k_fill
  refine LamX.walk_ofTs (l := PySem.Challenge.rw_drawnsteps_k00_words_and_ratios) (n := 63) (k := 3 * 12 + 3) (x := "script") (CX := fun w => L2.CX K00.prg w) rfl (by decide) rfl ⟨rfl, by decide, by decide⟩ (fun w h Y => PySem.W.km_in_of Y) ?F (fun w H s e s' z => by obtain ⟨_, _, _, _, _, _, _, _, _, _, _, _, z⟩ := z; exact z)
  case F =>
    intro w mg fa h Y KX Gs hmg
    have hts := PySem.W.km_tabs_of Y
    refine K00.fin ?E KX Gs hmg hts
    case E =>
      constructor
      · exact ⟨by kernel_rfl, by kernel_rfl, by kernel_rfl, by kernel_rfl, fun _ => by k_is, by kernel_rfl, by kernel_rfl, by kernel_rfl, by kernel_rfl, by kernel_rfl, by kernel_rfl⟩
      · (refine' FK.of ?a ?l ?c ?k; (case a => k_is); (case l => k_is); (case c => k_is); (case k => k_is))
      · (refine' FK.of ?a ?l ?c ?k; (case a => k_is); (case l => k_is); (case c => k_is); (case k => k_is))
      · (refine' FK.of ?a ?l ?c ?k; (case a => k_is); (case l => k_is); (case c => k_is); (case k => k_is))
      · (refine' FK.of ?a ?l ?c ?k; (case a => k_is); (case l => k_is); (case c => k_is); (case k => k_is))
      · (refine' FK.of ?a ?l ?c ?k; (case a => k_is); (case l => k_is); (case c => k_is); (case k => k_is))
      · (refine' FK.of ?a ?l ?c ?k; (case a => k_is); (case l => k_is); (case c => k_is); (case k => k_is))
      · (refine' FK.of ?a ?l ?c ?k; (case a => k_is); (case l => k_is); (case c => k_is); (case k => k_is))
      · (refine' FK.of ?a ?l ?c ?k; (case a => k_is); (case l => k_is); (case c => k_is); (case k => k_is))
      · (refine' FK.of ?a ?l ?c ?k; (case a => k_is); (case l => k_is); (case c => k_is); (case k => k_is))
      · (refine' FK.of ?a ?l ?c ?k; (case a => k_is); (case l => k_is); (case c => k_is); (case k => k_is))
      · (refine' FK.of ?a ?l ?c ?k; (case a => k_is); (case l => k_is); (case c => k_is); (case k => k_is))
      · (refine' FK.of ?a ?l ?c ?k; (case a => k_is); (case l => k_is); (case c => k_is); (case k => k_is))
      · (refine' FK.of ?a ?l ?c ?k; (case a => k_is); (case l => k_is); (case c => k_is); (case k => k_is))
      · (refine' FK.of ?a ?l ?c ?k; (case a => k_is); (case l => k_is); (case c => k_is); (case k => k_is))
      · (refine' FK.of ?a ?l ?c ?k; (case a => k_is); (case l => k_is); (case c => k_is); (case k => k_is))
      · (refine' FK.of ?a ?l ?c ?k; (case a => k_is); (case l => k_is); (case c => k_is); (case k => k_is))
      · (refine' FK.of ?a ?l ?c ?k; (case a => k_is); (case l => k_is); (case c => k_is); (case k => k_is))
      · (refine' FK.of ?a ?l ?c ?k; (case a => k_is); (case l => k_is); (case c => k_is); (case k => k_is))
      · (refine' FK.of ?a ?l ?c ?k; (case a => k_is); (case l => k_is); (case c => k_is); (case k => k_is))
      · (refine' FK.of ?a ?l ?c ?k; (case a => k_is); (case l => k_is); (case c => k_is); (case k => k_is))
      · (refine' FK.of ?a ?l ?c ?k; (case a => k_is); (case l => k_is); (case c => k_is); (case k => k_is))
      · (refine' FK.of ?a ?l ?c ?k; (case a => k_is); (case l => k_is); (case c => k_is); (case k => k_is))
      · (refine' FK.of ?a ?l ?c ?k; (case a => k_is); (case l => k_is); (case c => k_is); (case k => k_is))
      · (refine' FK.of ?a ?l ?c ?k; (case a => k_is); (case l => k_is); (case c => k_is); (case k => k_is))
      · (refine' FK.of ?a ?l ?c ?k; (case a => k_is); (case l => k_is); (case c => k_is); (case k => k_is))
      · (refine' FK.of ?a ?l ?c ?k; (case a => k_is); (case l => k_is); (case c => k_is); (case k => k_is))
      · (refine' FK.of ?a ?l ?c ?k; (case a => k_is); (case l => k_is); (case c => k_is); (case k => k_is))
      · (refine' FK.of ?a ?l ?c ?k; (case a => k_is); (case l => k_is); (case c => k_is); (case k => k_is))
      · (refine' FK.of ?a ?l ?c ?k; (case a => k_is); (case l => k_is); (case c => k_is); (case k => k_is))
      · (refine' FK.of ?a ?l ?c ?k; (case a => k_is); (case l => k_is); (case c => k_is); (case k => k_is))
      · (refine' FK.of ?a ?l ?c ?k; (case a => k_is); (case l => k_is); (case c => k_is); (case k => k_is))
      · (refine' FK.of ?a ?l ?c ?k; (case a => k_is); (case l => k_is); (case c => k_is); (case k => k_is))
      · (refine' FK.of ?a ?l ?c ?k; (case a => k_is); (case l => k_is); (case c => k_is); (case k => k_is))
      · (refine' FK.of ?a ?l ?c ?k; (case a => k_is); (case l => k_is); (case c => k_is); (case k => k_is))
      · (refine' FK.of ?a ?l ?c ?k; (case a => k_is); (case l => k_is); (case c => k_is); (case k => k_is))
      · (refine' FK.of ?a ?l ?c ?k; (case a => k_is); (case l => k_is); (case c => k_is); (case k => k_is))
      · refine' xf_of ?xq0hn ?xq0hC ?xq0hbm ?xq0sa ?xq0exC ?xq0tyC ?xq0kC ?xq0iC ?xq0tI ?xq0hno ?xq0l ?xq0cd ?xq0lc ?xq0lcc ?xq0hv ?xq0hf ?xq0ha ?xq0h1 ?xq0hm ?xq0hsup ?xq0hsub ?xq0hop ?xq0hbody ?xq0hs ?xq0hl ?xq0htop ?xq0nf ?xq0bnd
        (case xq0hn => k_is)
        (case xq0hC => k_is)
        (case xq0hbm => kernel_rfl)
        (case xq0sa => k_is)
        (case xq0exC => k_is)
        (case xq0tyC => k_is)
        (case xq0kC => k_is)
        (case xq0iC => k_is)
        (case xq0tI => k_is)
        (case xq0hno => k_is)
        (case xq0l => k_is)
        (case xq0cd => k_is)
        (case xq0lc => k_is)
        (case xq0lcc => k_is)
        (case xq0hv => rfl)
        (case xq0hf => kernel_rfl)
        (case xq0ha => rfl)
        (case xq0h1 => rfl)
        (case xq0hm => first | k_is | kernel_rfl)
        (case xq0hsup => first | ks_is | kernel_rfl)
        (case xq0hsub => k_is)
        (case xq0hop => k_is)
        (case xq0hbody => rfl)
        (case xq0hs => rfl)
        (case xq0hl => rfl)
        (case xq0htop => kernel_rfl)
        (case xq0nf => decide)
        (case xq0bnd => exact fun us hl => match us, hl with | [_, _], _ => rfl)
