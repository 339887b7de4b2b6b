import PyProof.Rows.All
import HandS.ForMost
import HandS.Wide
import HandS.HeadHook1
import HandS.TupAny
import HandS.TupMul
import HandS.IsInst
import HandS.Flow
import HandS.Star
import HandS.SortInts
import HandS.SetFor
import HandS.Small
import PyProof.NeData
import KE.SortData
import KE.KSortedM
import HandS.Strs
import HandS.Zip
import KE.KDictZip
import HandS.DictComp
import HandS.Set
import HandS.SetKeys
import HandS.TupSets
import HandS.Property
import HandS.ClsMeth
import HandS.OwnEq
import KE.KCallOwn
import OpenK.KOps
import KE.KIsAll
import KE.DataMinMax
import KE.DatumOrd
import KE.KDictSum
import KE.KDictItemsList
import HandS.Conv
import HandS.DictTup
import PyProof.TupleOfStr
import HandS.Style
import HandS.Exc
import HandS.Defaults
import HandS.Ends
import HandS.More
import HandS.Words
import HandS.WordsExc
import HandS.Head0
import HandS.Head1
import HandS.Head2
import HandS.HeadEnd
import HandS.HeadHook2
import HandS.HeadNt
import PySem.Challenge.RW_peaksums_k03_things_that_are_rows_and_na
import KE.KxText
set_option Elab.async false
set_option linter.all false
set_option maxRecDepth 100000
/-! I1: a small interpreter of the fragment of Python that the program and the laws are written in. -/
namespace Pz
open PySem

/-- data: tuples and lists that never change are plain values; what changes is a cell of the store -/
inductive D where
  | non
  | bl (b : Bool)
  | int (i : Int)
  | str (x : Str)
  | tup (xs : List D)
  | lst (xs : List D)
  | ext (t : Bool) (xs : List D)
  | ref (n : Nat)
  | obj (c : Str) (ns : List Str) (fs : List D)
  | lab (xs : List D)
  deriving Inhabited

inductive Cell where
  | dead
  | lst (xs : List D)
  | dic (t : Bool) (kvs : List (D × D))
  | obj (c : Str) (ns : List Str) (fs : List D)
  deriving Inhabited

abbrev Store := List Cell

inductive Res (α : Type) where
  | ok (a : α) (S : Store)
  | bad

abbrev Env := List (Option D)

def M (α : Type) := Store → Res α
@[inline] def M.pure {α : Type} (a : α) : M α := fun S => .ok a S
@[inline] def M.bind {α β : Type} (x : M α) (f : α → M β) : M β := fun S => match x S with
  | .ok a S' => f a S'
  | .bad => .bad
instance : Monad M where
  pure := M.pure
  bind := M.bind
def fail {α : Type} : M α := fun _ => .bad
def guardM (b : Bool) : M Unit := fun S => match b with
  | true => .ok () S
  | false => .bad
def optM {α : Type} (o : Option α) : M α := fun S => match o with
  | some a => .ok a S
  | none => .bad

inductive BOp where
  | add | sub | mul | fdiv | mod | pow
  deriving DecidableEq
inductive COp where
  | eq | ne | lt | le | gt | ge | isin | notin | is | isnot
  deriving DecidableEq
inductive Blt where
  | len | abs | int | all | any | sum | max1 | min1 | max2 | min2 | sorted | tuple | list | str | sortedSet | lenSet
  deriving DecidableEq
inductive Ty where
  | int | bool | str | list | tuple
  deriving DecidableEq
/-- a built-in type, an own class -/
inductive TyO where
  | blt (t : Ty)
  | own (c : Str)
inductive Mt where
  | append | count | get | join | split | pop | remove | index | tindex | extend
  deriving DecidableEq
/-- operators of own classes -/
inductive OOp where
  | add | rshift
  deriving DecidableEq
inductive Tg where
  | name (i : Nat)
  | tup (ts : List Tg)

mutual
inductive E where
  | non
  | bl (b : Bool)
  | int (i : Int)
  | str (x : Str)
  | var (i : Nat)
  | glo (j : Nat)
  | bin (op : BOp) (a b : E)
  | neg (a : E)
  | not (a : E)
  | cmp (op : COp) (a b : E)
  | cmp2 (op op' : COp) (a b c : E)
  | and (a b : E)
  | or (a b : E)
  | orT (a b : E)
  | ite (c a b : E)
  | tup (es : List E)
  | lst (es : List E)
  | idx (a i : E)
  | slc (a : E) (lo hi : Option E)
  | call (f : Nat) (args : List E)
  | callK (f : Nat) (args : List E) (ks : List Str) (kws : List E)
  | blt (b : Blt) (args : List E)
  | isi (a : E) (ts : List Ty)
  | mth (m : Mt) (o : E) (args : List E)
  | comp (own : List Nat) (t : Tg) (it : I) (c : Option E) (e : E)
  | dcomp (tk : Bool) (own : List Nat) (t : Tg) (it : I) (c : Option E) (k v : E)
  | dict0 (t : Bool)
  | sset (a : E)
  | mut (a : E)
  | frz (a : E)
  | bad
  | att (a : E) (f : Str)
  | meth (a : E) (m : Str) (args : List E)
  | make (z : Bool) (c : Str) (args : List E)
  | stat (c m : Str) (args : List E)
  | callO (a : E) (args : List E)
  | eqO (neg : Bool) (a b : E)
  | lenO (a : E)
  | idxO (a i : E)
  | inO (neg : Bool) (x a : E)
  | binO (op : OOp) (a b : E)
  | isO (a : E) (ts : List TyO)
  | tupS (fs : List Bool) (es : List E)
  | labS (fs : List Bool) (es : List E)
  | labT (a : E)
  | lstS (fs : List Bool) (es : List E)
  | itemsL (a : E)
  | sortedK (a : E)
  | minT (a : E)
  | maxT (a : E)
  | tupStr (a : E)
  | rev (a : E)
  | comp2 (own : List Nat) (t : Tg) (it : I) (c : Option E) (own2 : List Nat) (t2 : Tg) (it2 : I) (c2 : Option E) (e : E)
inductive I where
  | seq (e : E)
  | rng1 (a : E)
  | rng2 (a b : E)
  | enum (e : E)
  | zip (a b : E)
  | enumZip (a b : E)
  | enumT (e : E)
  | zip3 (a b c : E)
end

inductive S where
  | expr (e : E)
  | asg (t : Tg) (e : E)
  | par2 (i j : Nat) (a b : E)
  | par3 (i j l : Nat) (a b c : E)
  | asgIdx (o i e : E)
  | aug (i : Nat) (op : BOp) (e : E)
  | ret (e : E)
  | retN
  | ifs (c : E) (a b : List S)
  | loop (t : Tg) (it : I) (body : List S)
  | whil (n : Nat) (c : E) (body : List S)
  | brk
  | cnt
  | pass
  | bad
  | asgF (o : E) (f : Str) (e : E)
  | parF (o : E) (fs : List Str) (es : List E)

inductive Fl where
  | nx (env : Env)
  | rt (d : D)
  | bk (env : Env)
  | ct (env : Env)

/-- where a def stands: at the top, in a class -/
inductive Own where
  | top
  | meth (c : Str)
  | prop (c : Str)
  | stat (c : Str)
structure Fn where
  name : Str
  ps : List Str
  N : List Str
  body : List S
  kws : List (List Str) := []
  gc : Bool := true
  own : Own := .top
  dfl : List D := []
  dn : Option Str := none
  qn : Option Str := none
/-- a class: its attributes, its __init__, properties, methods, static methods -/
structure ClsD where
  name : Str
  flds : List Str := []
  prps : List (Str × Nat) := []
  mths : List (Str × Nat) := []
  stas : List (Str × Nat) := []
structure Prog where
  fns : List Fn
  cns : List (Str × D)
  cls : List ClsD := []

/-! ### texts and tables of texts -/
def beqN : List Nat → List Nat → Bool
  | [], [] => true
  | x :: xs, y :: ys => Nat.beq x y && beqN xs ys
  | _, _ => false
def beqS (a b : Str) : Bool := beqN a.cps.toList b.cps.toList
def lkS {α : Type} (f : Str) : List (Str × α) → Option α
  | [] => none
  | (g, a) :: r => match beqS g f with
    | true => some a
    | false => lkS f r
def hasS (f : Str) : List Str → Bool
  | [] => false
  | g :: r => beqS g f || hasS f r
def clsIn (c : Str) : List ClsD → Option ClsD
  | [] => none
  | d :: r => match beqS d.name c with
    | true => some d
    | false => clsIn c r
def fldOf (f : Str) : List Str → List D → Option D
  | n :: ns, d :: ds => match beqS n f with
    | true => some d
    | false => fldOf f ns ds
  | _, _ => none
/-- an instance: its class, its attributes -/
def objOf (T : Store) : D → Option (Str × List Str × List D)
  | .obj c ns fs => some (c, ns, fs)
  | .ref n => match T[n]? with
    | some (.obj c ns fs) => some (c, ns, fs)
    | _ => none
  | _ => none
/-- an attribute is stored -/
def putN (f : Str) : List Str → List Str
  | [] => [f]
  | n :: ns => match beqS n f with
    | true => n :: ns
    | false => n :: putN f ns
def putD (f : Str) (v : D) : List Str → List D → List D
  | n :: ns, d :: ds => match beqS n f with
    | true => v :: ds
    | false => d :: putD f v ns ds
  | _, _ => [v]
/-- the defaults fill up -/
def fillG {α : Type} (n : Nat) (dfl ds : List α) : List α := ds ++ dfl.drop (ds.length + dfl.length - n)
def fillD (fn : Fn) (ds : List D) : List D := fillG fn.ps.length fn.dfl ds

/-! ### values -/
def isList (St : Store) : D → Option (List D)
  | .lst xs => some xs
  | .ref n => match St[n]? with
    | some (.lst xs) => some xs
    | _ => none
  | _ => none
/-- what is read as a sequence: list, tuple, the script -/
def isSeq (St : Store) : D → Option (List D)
  | .lst xs => some xs
  | .tup xs => some xs
  | .ext _ xs => some xs
  | .lab xs => some xs
  | .ref n => match St[n]? with
    | some (.lst xs) => some xs
    | _ => none
  | _ => none

/-- what tuple() takes -/
def isSeqT (T : Store) : D → Option (List D)
  | .tup xs => some xs
  | .ext true _ => none
  | .ext false xs => some xs
  | .lab _ => none
  | x => isList T x

def lim (n : Nat) : Bool := Nat.ble n sizeLine

def mulOk (i j : Int) : Bool := Nat.blt i.natAbs (2 ^ 64) || Nat.blt j.natAbs (2 ^ 64) || Nat.blt (i.natAbs.log2 + j.natAbs.log2) 1000000

def eqAll (f : D → D → Option Bool) : List D → List D → Option Bool
  | [], [] => some true
  | x :: xs, y :: ys => match f x y, eqAll f xs ys with
    | some a, some b => some (a && b)
    | _, _ => none
  | _, _ => some false
/-- == of what are no lists -/
def eqF (f : D → D → Option Bool) : D → D → Option Bool
  | .non, .non => some true
  | .bl a, .bl b => some (a == b)
  | .bl a, .int j => some ((if a then 1 else 0) == j)
  | .int i, .bl b => some (i == (if b then 1 else 0))
  | .int i, .int j => some (i == j)
  | .str a, .str b => some (a == b)
  | .tup xs, .tup ys => eqAll f xs ys
  | .non, .bl _ => some false
  | .non, .int _ => some false
  | .non, .str _ => some false
  | .non, .tup _ => some false
  | .bl _, .non => some false
  | .bl _, .str _ => some false
  | .bl _, .tup _ => some false
  | .int _, .non => some false
  | .int _, .str _ => some false
  | .int _, .tup _ => some false
  | .str _, .non => some false
  | .str _, .bl _ => some false
  | .str _, .int _ => some false
  | .str _, .tup _ => some false
  | .tup _, .non => some false
  | .tup _, .bl _ => some false
  | .tup _, .int _ => some false
  | .tup _, .str _ => some false
  | _, _ => none
/-- a list beside what is none -/
def eqX : D → Option Bool
  | .ref _ => none
  | .ext _ _ => none
  | .lst _ => none
  | .obj _ _ _ => none
  | .lab _ => none
  | _ => some false
/-- == ; none where it is not told -/
def eqD : Nat → Store → D → D → Option Bool
  | 0, _, _, _ => none
  | n + 1, T, x, y => match isList T x, isList T y with
    | some xs, some ys => eqAll (eqD n T) xs ys
    | some _, none => eqX y
    | none, some _ => eqX x
    | none, none => eqF (eqD n T) x y

def intsD : List D → Option (List Int)
  | [] => some []
  | .int i :: r => match intsD r with
    | some is => some (i :: is)
    | none => none
  | _ => none
def boolsD : List D → Option (List Bool)
  | [] => some []
  | .bl i :: r => match boolsD r with
    | some is => some (i :: is)
    | none => none
  | _ => none
def strsD : List D → Option (List Str)
  | [] => some []
  | .str i :: r => match strsD r with
    | some is => some (i :: is)
    | none => none
  | _ => none

def andB (a b : Bool) : Bool := a && b
def okIf {α : Type} (b : Bool) (a : α) (T : Store) : Res α := match b with
  | true => .ok a T
  | false => .bad

def opD (op : BOp) (x y : D) : M D := fun T => match op, x, y with
  | .add, .int i, .int j => .ok (.int (i + j)) T
  | .sub, .int i, .int j => .ok (.int (i - j)) T
  | .mul, .int i, .int j => okIf (mulOk i j) (.int (i * j)) T
  | .fdiv, .int i, .int j => okIf (decide (0 < j) && Nat.blt j.natAbs.log2 9000) (.int (i / j)) T
  | .mod, .int i, .int j => okIf (decide (0 < j)) (.int (i % j)) T
  | .pow, .int i, .int j => okIf (decide (0 ≤ j) && decide (j ≤ 1000000) && Nat.blt i.natAbs (2 ^ 64)) (.int (i ^ j.toNat)) T
  | .add, .str a, .str b => okIf (lim (a.length + b.length)) (.str (a ++ b)) T
  | .add, .tup a, .tup b => okIf (lim (a.length + b.length)) (.tup (a ++ b)) T
  | .add, x, y => match isList T x, isList T y with
    | some a, some b => okIf (lim (a.length + b.length)) (.lst (a ++ b)) T
    | _, _ => .bad
  | .mul, .tup a, .int k => okIf (!a.isEmpty && decide (1 ≤ k) && decide (k ≤ 1000) && Nat.ble a.length 1000) (.tup (List.replicate k.toNat a).flatten) T
  | .mul, x, .int k => match isList T x with
    | some a => okIf (decide (-(2 ^ 63) ≤ k) && decide (k < 2 ^ 63) && lim (a.length * k.toNat)) (.lst (List.replicate k.toNat a).flatten) T
    | none => .bad
  | _, _, _ => .bad

/-- op= : nothing here changes a list in place -/
def augD (op : BOp) (x y : D) : M D := fun T => match op, x, y with
  | .add, .int i, .int j => .ok (.int (i + j)) T
  | .sub, .int i, .int j => .ok (.int (i - j)) T
  | .mul, .int i, .int j => okIf (Nat.blt i.natAbs (2 ^ 64) || Nat.blt j.natAbs (2 ^ 64)) (.int (i * j)) T
  | .add, .str a, .str b => okIf (lim (a.length + b.length)) (.str (a ++ b)) T
  | _, _, _ => .bad

def negD (x : D) : M D := match x with
  | .int i => pure (.int (-i))
  | _ => fail
def notD (x : D) : M D := match x with
  | .bl b => pure (.bl (!b))
  | _ => fail
def boolD (x : D) : M Bool := match x with
  | .bl b => pure b
  | _ => fail

def ltS (a b : Str) : Bool := decide (a.cps.toList < b.cps.toList)

def anyEq (T : Store) (x : D) : List D → Option Bool
  | [] => some false
  | y :: ys => match eqD 60 T y x, anyEq T x ys with
    | some a, some b => some (a || b)
    | _, _ => none

def keyEq : D → D → Bool
  | .int i, .int j => decide (i = j)
  | .str a, .str b => decide (a = b)
  | .tup xs, .tup ys => all xs ys
  | _, _ => false
where all : List D → List D → Bool
  | [], [] => true
  | x :: xs, y :: ys => keyEq x y && all xs ys
  | _, _ => false
def keyOkF : D → Bool
  | .int _ => true
  | .str _ => true
  | _ => false
/-- a key that a dict can have here: an int, a text, a tuple of such -/
def keyOk : D → Bool
  | .int _ => true
  | .str _ => true
  | .tup xs => xs.all keyOkF
  | _ => false
def isTupD : D → Bool
  | .tup _ => true
  | _ => false
def dget (kvs : List (D × D)) (k : D) : Option D := match kvs with
  | [] => none
  | (k', v) :: r => match keyEq k' k with
    | true => some v
    | false => dget r k
def dhas (kvs : List (D × D)) (k : D) : Bool := match kvs with
  | [] => false
  | (k', _) :: r => keyEq k' k || dhas r k
def dset (kvs : List (D × D)) (k v : D) : List (D × D) := match kvs with
  | [] => []
  | (k', v') :: r => match keyEq k' k with
    | true => (k', v) :: dset r k v
    | false => (k', v') :: dset r k v
def dput (kvs : List (D × D)) (k v : D) : List (D × D) := match dhas kvs k with
  | true => dset kvs k v
  | false => kvs ++ [(k, v)]
/-- the dict at a cell, for this key: its keys are all tuples (t) or none is -/
def dictFor (T : Store) (d k : D) : Option (List (D × D)) := match d with
  | .ref n => match T[n]? with
    | some (.dic t kvs) => match keyOk k && (isTupD k == t) with
      | true => some kvs
      | false => none
    | _ => none
  | _ => none

def inD (T : Store) (x y : D) : Option Bool := match y with
  | .str b => match x with
    | .str a => match a.cps.toList with
      | [c] => some (decide (c ∈ b.cps.toList))
      | _ => some (!(Builtin.Str.occurrences b a 0 b.length 1).isEmpty)
    | _ => none
  | y => match isSeq T y with
    | some ys => anyEq T x ys
    | none => match dictFor T y x with
      | some kvs => some (dget kvs x).isSome
      | none => none

def isNonD : D → Bool
  | .non => true
  | _ => false
def ltD (x y : D) : Option Bool := match x, y with
  | .int i, .int j => some (decide (i < j))
  | .str a, .str b => some (ltS a b)
  | _, _ => none
/-! ### order -/
mutual
def alikeD : D → D → Bool
  | .non, .non => true
  | .bl _, .bl _ => true
  | .int _, .int _ => true
  | .str _, .str _ => true
  | .tup xs, .tup ys => alikeDs xs ys
  | _, _ => false
def alikeDs : List D → List D → Bool
  | x :: xs, y :: ys => alikeD x y && alikeDs xs ys
  | [], _ => true
  | _ :: _, [] => true
end
def sameN : List Str → List Str → Bool
  | [], [] => true
  | x :: xs, y :: ys => beqS x y && sameN xs ys
  | _, _ => false
mutual
def sameD : D → D → Bool
  | .non, .non => true
  | .bl a, .bl b => a == b
  | .int a, .int b => decide (a = b)
  | .str a, .str b => decide (a = b)
  | .tup a, .tup b => sameL a b
  | .lst a, .lst b => sameL a b
  | .ext a c, .ext b e => a == b && sameL c e
  | .ref a, .ref b => Nat.beq a b
  | .obj a b c, .obj e f g => beqS a e && sameN b f && sameL c g
  | .lab a, .lab b => sameL a b
  | _, _ => false
def sameL : List D → List D → Bool
  | [], [] => true
  | x :: xs, y :: ys => sameD x y && sameL xs ys
  | _, _ => false
end
mutual
/-- x < y of alike data -/
def lessD : D → D → Bool
  | .bl a, .bl b => !a && b
  | .int i, .int j => decide (i < j)
  | .str a, .str b => ltS a b
  | .tup xs, .tup ys => lessDs xs ys
  | _, _ => false
def lessDs : List D → List D → Bool
  | [], [] => false
  | [], _ :: _ => true
  | _ :: _, [] => false
  | x :: xs, y :: ys => match sameD x y with
    | true => lessDs xs ys
    | false => lessD x y
end
/-- nested at most so deep -/
def shal : Nat → D → Bool
  | n + 1, .tup xs => xs.all (shal n)
  | 0, .tup _ => false
  | _, _ => true
def isIntD : D → Bool
  | .int _ => true
  | _ => false
def isStrD : D → Bool
  | .str _ => true
  | _ => false
def isTup1 : D → Bool
  | .tup (_ :: _) => true
  | _ => false
/-- these can be sorted -/
def okSort (xs : List D) : Bool := xs.all isIntD || xs.all isStrD || (xs.all (fun x => isTup1 x && shal 20 x) && xs.all fun x => xs.all fun y => alikeD x y)
def insD (x : D) : List D → List D
  | [] => [x]
  | y :: ys => match lessD y x with
    | true => y :: insD x ys
    | false => x :: y :: ys
def sortD : List D → List D
  | [] => []
  | x :: xs => insD x (sortD xs)
/-- each once -/
def insU (x : D) : List D → List D
  | [] => [x]
  | y :: ys => match lessD y x with
    | true => y :: insU x ys
    | false => match lessD x y with
      | true => x :: y :: ys
      | false => y :: ys
def sortU : List D → List D
  | [] => []
  | x :: xs => insU x (sortU xs)
def ltT (x y : D) : Option Bool := match x, y with
  | .tup xs, .tup ys => match alikeDs xs ys && alikeDs xs xs && alikeDs ys ys && shal 20 x && shal 20 y with
    | true => some (lessDs xs ys)
    | false => none
  | x, y => ltD x y
def optB (o : Option Bool) (T : Store) : Res D := match o with
  | some b => .ok (.bl b) T
  | none => .bad
def notO : Option Bool → Option Bool
  | some b => some (!b)
  | none => none
def cmpD (op : COp) (x y : D) : M D := fun T => match op with
  | .eq => optB (eqD 60 T x y) T
  | .ne => optB (notO (eqD 60 T x y)) T
  | .lt => optB (ltT x y) T
  | .gt => optB (ltD y x) T
  | .le => optB (notO (ltD y x)) T
  | .ge => optB (notO (ltD x y)) T
  | .isin => optB (inD T x y) T
  | .notin => optB (notO (inD T x y)) T
  | .is => match y with
    | .non => .ok (.bl (isNonD x)) T
    | _ => .bad
  | .isnot => match y with
    | .non => .ok (.bl (!isNonD x)) T
    | _ => .bad

/-! ### places -/
def ixD (n : Nat) (i : Int) : Option Nat := L2.ixN n i
def idxD (x i : D) : M D := fun T => match i with
  | .int k => match x with
    | .str z => match lim z.length, L2.atI z.cps.toList k with
      | true, some c => .ok (.str ⟨#[c]⟩) T
      | _, _ => .bad
    | x => match isSeq T x with
      | some xs => match L2.atI xs k with
        | some d => .ok d T
        | none => .bad
      | none => match dictFor T x (.int k) with
        | some kvs => match dget kvs (.int k) with
          | some d => .ok d T
          | none => .bad
        | none => .bad
  | i => match dictFor T x i with
    | some kvs => match dget kvs i with
      | some d => .ok d T
      | none => .bad
    | none => .bad
def cutD {α : Type} (xs : List α) (lo hi : Option Int) : List α := (xs.drop (HT.sIx xs.length 0 lo)).take (HT.sIx xs.length xs.length hi - HT.sIx xs.length 0 lo)
def slcD (x : D) (lo hi : Option Int) : M D := fun T => match x with
  | .str z => okIf (lim z.length) (.str (L2.cutS z lo hi)) T
  | .tup xs => .ok (.tup (cutD xs lo hi)) T
  | .lab xs => okIf (!(Nat.beq (HT.sIx xs.length 0 lo) 0 && Nat.beq (HT.sIx xs.length xs.length hi) xs.length)) (.tup (cutD xs lo hi)) T
  | .ext false xs => .ok (.lst (cutD xs lo hi)) T
  | x => match isList T x with
    | some xs => .ok (.lst (cutD xs lo hi)) T
    | none => .bad

/-! ### built-in functions -/
def insS (lt : D → D → Bool) (x : D) : List D → List D
  | [] => [x]
  | y :: ys => match lt y x with
    | true => y :: insS lt x ys
    | false => x :: y :: ys
def sortI : List Int → List Int
  | [] => []
  | x :: xs => ins x (sortI xs)
where ins (x : Int) : List Int → List Int
  | [] => [x]
  | y :: ys => match decide (y < x) with
    | true => y :: ins x ys
    | false => x :: y :: ys
def sortS : List Str → List Str
  | [] => []
  | x :: xs => ins x (sortS xs)
where ins (x : Str) : List Str → List Str
  | [] => [x]
  | y :: ys => match ltS y x with
    | true => y :: ins x ys
    | false => x :: y :: ys
def maxI : Int → List Int → Int
  | m, [] => m
  | m, x :: xs => maxI (if m < x then x else m) xs
def minI : Int → List Int → Int
  | m, [] => m
  | m, x :: xs => minI (if x < m then x else m) xs

def withL (T : Store) (x : D) (f : List D → Res D) : Res D := match isList T x with
  | some xs => f xs
  | none => .bad
def withI (xs : List D) (f : List Int → Res D) : Res D := match intsD xs with
  | some xs => f xs
  | none => .bad
def withB (xs : List D) (f : List Bool → Res D) : Res D := match boolsD xs with
  | some xs => f xs
  | none => .bad
def maxL (T : Store) : List Int → Res D
  | [] => .bad
  | b :: bs => .ok (.int (maxI b bs)) T
def minL (T : Store) : List Int → Res D
  | [] => .bad
  | b :: bs => .ok (.int (minI b bs)) T
def lenD (T : Store) (x : D) : Res D := match x with
  | .str z => okIf (lim z.length) (.int z.length) T
  | x => match isSeq T x with
    | some xs => .ok (.int xs.length) T
    | none => .bad
def absD (T : Store) (x : D) : Res D := match x with
  | .int i => .ok (.int (if i < 0 then -i else i)) T
  | _ => .bad
def intD (T : Store) (x : D) : Res D := match x with
  | .int i => .ok (.int i) T
  | .bl k => .ok (.int (if k then 1 else 0)) T
  | _ => .bad
def strD (T : Store) (x : D) : Res D := match x with
  | .int i => okIf (Nat.blt i.natAbs.log2 1920) (.str (toString i)) T
  | _ => .bad
def blt1 (b : Blt) (x : D) : M D := fun T => match b with
  | .len => lenD T x
  | .abs => absD T x
  | .int => intD T x
  | .all => withL T x fun xs => withB xs fun bs => .ok (.bl (bs.all id)) T
  | .any => withL T x fun xs => withB xs fun bs => .ok (.bl (bs.any id)) T
  | .sum => withL T x fun xs => withI xs fun bs => .ok (.int bs.sum) T
  | .max1 => withL T x fun xs => withI xs (maxL T)
  | .min1 => withL T x fun xs => withI xs (minL T)
  | .tuple => match isSeqT T x with
    | some xs => .ok (.tup xs) T
    | none => .bad
  | .list => match isSeq T x with
    | some xs => .ok (.lst xs) T
    | none => .bad
  | .str => strD T x
  | .sorted => match isSeq T x with
    | some xs => okIf (okSort xs) (.lst (sortD xs)) T
    | none => .bad
  | _ => .bad
def blt2 (b : Blt) (x y : D) : M D := fun T => match b, x, y with
  | .max2, .int i, .int j => .ok (.int (if j > i then j else i)) T
  | .min2, .int i, .int j => .ok (.int (if j < i then j else i)) T
  | _, _, _ => .bad
/-- sorted(set(x)) -/
def ssetD (x : D) : M D := fun T => match isSeq T x with
  | some xs => okIf ((xs.all isIntD || xs.all isStrD) && Nat.blt xs.length 4000) (.lst (sortU xs)) T
  | none => .bad
/-- tuple(x) -/
def labTD (x : D) : M D := fun T => match x with
  | .lab xs => .ok (.lab xs) T
  | .ext true xs => .ok (.ext true xs) T
  | x => match isList T x with
    | some xs => .ok (.lab xs) T
    | none => .bad
/-- list(d.items()) -/
def itemsD (x : D) : M D := fun T => match x with
  | .ref n => match T[n]? with
    | some (.dic true kvs) => .ok (.lst (kvs.map fun q => .tup [q.1, q.2])) T
    | _ => .bad
  | _ => .bad
/-- sorted(d) -/
def sortedKD (x : D) : M D := fun T => match x with
  | .ref n => match T[n]? with
    | some (.dic true kvs) => okIf (okSort (kvs.map (·.1)) || Nat.ble kvs.length 1) (.lst (sortD (kvs.map (·.1)))) T
    | _ => .bad
  | _ => .bad
def minTD (x : D) : M D := fun T => match x with
  | .tup xs => withI xs (minL T)
  | _ => .bad
def maxTD (x : D) : M D := fun T => match x with
  | .tup xs => withI xs (maxL T)
  | _ => .bad
def tupStrD (x : D) : M D := fun T => match x with
  | .str z => okIf (lim z.length) (.lab (z.cps.toList.map fun c => .str ⟨#[c]⟩)) T
  | _ => .bad
def revD (x : D) : M D := fun T => match x with
  | .tup xs => .ok (.tup xs.reverse) T
  | x => match isList T x with
    | some xs => .ok (.lst xs.reverse) T
    | none => .bad
def seqD (x : D) : M (List D) := fun T => match isSeq T x with
  | some xs => .ok xs T
  | none => .bad
def bltD (b : Blt) (xs : List D) : M D := match xs with
  | [x] => blt1 b x
  | [x, y] => blt2 b x y
  | _ => fail

def tyD (T : Store) (x : D) (t : Ty) : Option Bool := match x with
  | .non => some false
  | .bl _ => some (match t with | .bool => true | .int => true | _ => false)
  | .int _ => some (match t with | .int => true | _ => false)
  | .str _ => some (match t with | .str => true | _ => false)
  | .tup _ => some (match t with | .tuple => true | _ => false)
  | .lst _ => some (match t with | .list => true | _ => false)
  | .ext true _ => some (match t with | .tuple => true | _ => false)
  | .ext false _ => none
  | .obj _ _ _ => none
  | .lab _ => some (match t with | .tuple => true | _ => false)
  | .ref n => match T[n]? with
    | some (.lst _) => some (match t with | .list => true | _ => false)
    | _ => none
def isiD (x : D) (ts : List Ty) : M D := fun T => optB (go T ts) T
where go (T : Store) : List Ty → Option Bool
  | [] => some false
  | t :: r => match tyD T x t, go T r with
    | some a, some b => some (a || b)
    | _, _ => none

/-- a tuple -/
def isTupS (_ : Store) : D → Option (List D)
  | .tup xs => some xs
  | .ext true xs => some xs
  | .lab xs => some xs
  | _ => none
def idxS (z : Str) : Nat → List Str → Option Nat
  | _, [] => none
  | k, y :: ys => match beqS y z with
    | true => some k
    | false => idxS z (k + 1) ys
/-- the receiver is of the method's class -/
def tyOk (m : Mt) (x : D) (T : Store) : Bool := match m with
  | .append => (isList T x).isSome
  | .count => (isList T x).isSome
  | .pop => (isList T x).isSome
  | .remove => (isList T x).isSome
  | .index => (isList T x).isSome
  | .extend => (isList T x).isSome
  | .tindex => match x with
    | .lab _ => true
    | _ => false
  | .join => match x with
    | .str _ => true
    | _ => false
  | .split => match x with
    | .str _ => true
    | _ => false
  | .get => match x with
    | .ref n => match T[n]? with
      | some (.dic _ _) => true
      | _ => false
    | _ => false
def appD (o : D) (xs : List D) : M D := fun T => match o, xs with
  | .ref n, [x] => match T[n]? with
    | some (.lst ys) => okIf (Nat.blt ys.length sizeLine) .non (T.set n (.lst (ys ++ [x])))
    | _ => .bad
  | _, _ => .bad
def joinD (o : D) (xs : List D) : M D := fun T => match o, xs with
  | .str a, [x] => match isSeq T x with
    | some ys => match strsD ys with
      | some zs => okIf (Nat.ble ((zs.map (·.length)).sum + zs.length * a.length) 16777216) (.str (Txt.join a zs)) T
      | none => .bad
    | none => .bad
  | _, _ => .bad
def splitD (o : D) (xs : List D) : M D := fun T => match o, xs with
  | .str a, [.str b] => okIf (!(b.length == 0) && lim (a.length + 2)) (.lst ((Txt.split a b).map D.str)) T
  | _, _ => .bad
def getD (o : D) (xs : List D) : M D := fun T => match xs with
  | [k, d] => match dictFor T o k with
    | some kvs => .ok ((dget kvs k).getD d) T
    | none => .bad
  | _ => .bad
def countD (o : D) (xs : List D) : M D := fun T => match xs with
  | [.int i] => withL T o fun ys => withI ys fun is => .ok (.int (is.count i : Nat)) T
  | _ => .bad
def popD (o : D) (xs : List D) : M D := fun T => match o, xs with
  | .ref n, [.int i] => match T[n]? with
    | some (.lst ys) => match decide (0 ≤ i) && decide (i < 2 ^ 62), ys[i.toNat]? with
      | true, some y => .ok y (T.set n (.lst (ys.eraseIdx i.toNat)))
      | _, _ => .bad
    | _ => .bad
  | _, _ => .bad
def tindexD (o : D) (xs : List D) : M D := fun T => match o, xs with
  | .lab ys, [.str z] => match strsD ys with
    | some zs => match idxS z 0 zs with
      | some j => .ok (.int (j : Nat)) T
      | none => .bad
    | none => .bad
  | _, _ => .bad
def extendD (o : D) (xs : List D) : M D := fun T => match o, xs with
  | .ref n, [x] => match T[n]? with
    | some (.lst ys) => match x with
      | .lst zs => okIf (lim (ys.length + zs.length)) .non (T.set n (.lst (ys ++ zs)))
      | _ => .bad
    | _ => .bad
  | _, _ => .bad
def mthD (m : Mt) (o : D) (xs : List D) : M D := match m with
  | .append => appD o xs
  | .join => joinD o xs
  | .split => splitD o xs
  | .get => getD o xs
  | .count => countD o xs
  | .pop => popD o xs
  | .tindex => tindexD o xs
  | .extend => extendD o xs
  | _ => fail

def setIdx (o i v : D) : M Unit := fun T => match o with
  | .ref n => match T[n]? with
    | some (.lst xs) => match i with
      | .int k => match L2.ixN xs.length k with
        | some j => .ok () (T.set n (.lst (xs.set j v)))
        | none => .bad
      | _ => .bad
    | some (.dic t kvs) => match keyOk i && (isTupD i == t) && Nat.blt kvs.length sizeLine with
      | true => .ok () (T.set n (.dic t (dput kvs i v)))
      | false => .bad
    | _ => .bad
  | _ => .bad

def newCell (c : Cell) : M D := fun T => .ok (.ref T.length) (T ++ [c])
def mutD (d : D) : M D := match d with
  | .lst xs => newCell (.lst xs)
  | _ => fail
def frzC (n : Nat) : M D := fun T => match T[n]? with
  | some (.lst xs) => .ok (.lst xs) (T.set n .dead)
  | some (.obj c ns fs) => .ok (.obj c ns fs) (T.set n .dead)
  | _ => .bad
def frzD (d : D) : M D := match d with
  | .ref n => frzC n
  | d => pure d

def listOnly (y : D) : M D := fun T => match isList T y with
  | some _ => .ok y T
  | none => .bad
/-! ### names -/
def bindT : Tg → D → Env → Option Env
  | .name i, d, env => match Nat.blt i env.length with
    | true => some (env.set i (some d))
    | false => none
  | .tup ts, .tup ds, env => all ts ds env
  | .tup _, _, _ => none
where all : List Tg → List D → Env → Option Env
  | [], [], env => some env
  | t :: ts, d :: ds, env => match bindT t d env with
    | some env' => all ts ds env'
    | none => none
  | _, _, _ => none
def wipeE (env : Env) : List Nat → Env
  | [] => env
  | v :: vs => (wipeE env vs).set v none

/-- what is walked: the items, and the cell that must stay as it is -/
abbrev Guard := List (Nat × List D)
abbrev Walk := List D × Guard
def stay1 (n : Nat) (xs : List D) (T : Store) : Bool := match T[n]? with
  | some (.lst ys) => sameL xs ys
  | _ => false
def stays (g : Guard) (T : Store) : Bool := match g with
  | [] => true
  | (n, xs) :: r => stay1 n xs T && stays r T
def lstWalk (d : D) (T : Store) : Res Walk := match d with
  | .lst xs => .ok (xs, []) T
  | .ref n => match T[n]? with
    | some (.lst xs) => .ok (xs, [(n, xs)]) T
    | _ => .bad
  | _ => .bad
def seqWalk (d : D) : M Walk := fun T => match d with
  | .str z => .ok (z.cps.toList.map fun c => .str ⟨#[c]⟩, []) T
  | .tup xs => .ok (xs, []) T
  | .lab xs => .ok (xs, []) T
  | .ext _ xs => .ok (xs, []) T
  | d => lstWalk d T
def enumL (k : Int) : List D → List D
  | [] => []
  | x :: xs => .tup [.int k, x] :: enumL (k + 1) xs
def zipL : List D → List D → List D
  | x :: xs, y :: ys => .tup [x, y] :: zipL xs ys
  | _, _ => []
def enumWalk (d : D) : M Walk := fun T => match lstWalk d T with
  | .ok w T' => .ok (enumL 0 w.1, w.2) T'
  | .bad => .bad
def zipWalk (x y : D) : M Walk := fun T => match x, y with
  | .tup xs, .tup ys => .ok (zipL xs ys, []) T
  | x, y => match lstWalk x T, lstWalk y T with
    | .ok w _, .ok u _ => .ok (zipL w.1 u.1, w.2 ++ u.2) T
    | _, _ => .bad
/-- enumerate of a tuple -/
def enumTWalk (d : D) : M Walk := fun T => match isTupS T d with
  | some xs => .ok (enumL 0 xs, []) T
  | none => .bad
def ezWalk (x y : D) : M Walk := fun T => match lstWalk x T, lstWalk y T with
  | .ok w _, .ok u _ => .ok (enumL 0 (zipL w.1 u.1), w.2 ++ u.2) T
  | _, _ => .bad
def upTo (lo : Int) : Nat → List D
  | 0 => []
  | n + 1 => .int lo :: upTo (lo + 1) n
def smallI (i : Int) : Bool := decide (-(2 ^ 62) ≤ i) && decide (i < 2 ^ 62)

def rng1D (x : D) : M Walk := match x with
  | .int j => fun T => okIf (smallI j) (upTo 0 j.toNat, []) T
  | _ => fail
def rng2D (x y : D) : M Walk := match x, y with
  | .int i, .int j => fun T => okIf (smallI i && smallI j) (upTo i (j - i).toNat, []) T
  | _, _ => fail
/-- the turns of a comprehension -/
def compL (g : Guard) (f : D → M (Option D)) : List D → List D → M (List D)
  | [], acc => fun T => okIf (stays g T) acc.reverse T
  | x :: xs, acc => fun T => match stays g T with
    | true => match f x T with
      | .ok (some y) T' => match Nat.blt acc.length sizeLine with
        | true => compL g f xs (y :: acc) T'
        | false => .bad
      | .ok none T' => compL g f xs acc T'
      | .bad => .bad
    | false => .bad
/-- the outer turns of a comprehension with two fors; f goes on from what was made, last first -/
def compL2 (g : Guard) (f : D → List D → M (List D)) : List D → List D → M (List D)
  | [], acc => fun T => okIf (stays g T) acc.reverse T
  | x :: xs, acc => fun T => match stays g T with
    | true => match f x acc T with
      | .ok ys T' => compL2 g f xs ys.reverse T'
      | .bad => .bad
    | false => .bad
/-- the turns of a dict comprehension -/
def dcompL (tk : Bool) (g : Guard) (f : D → M (Option (D × D))) : List D → List (D × D) → M (List (D × D))
  | [], acc => fun T => okIf (stays g T) acc T
  | x :: xs, acc => fun T => match stays g T with
    | true => match f x T with
      | .ok (some y) T' => match keyOk y.1 && (isTupD y.1 == tk) && Nat.blt acc.length sizeLine with
        | true => dcompL tk g f xs (dput acc y.1 y.2) T'
        | false => .bad
      | .ok none T' => dcompL tk g f xs acc T'
      | .bad => .bad
    | false => .bad
/-- the turns of a loop -/
def forL (g : Guard) (f : D → Env → M Fl) : List D → Env → M Fl
  | [], env => fun T => okIf (stays g T) (.nx env) T
  | x :: xs, env => fun T => match stays g T with
    | true => match f x env T with
      | .ok (.nx env') T' => forL g f xs env' T'
      | .ok (.ct env') T' => forL g f xs env' T'
      | .ok (.bk env') T' => .ok (.nx env') T'
      | .ok (.rt d) T' => .ok (.rt d) T'
      | .bad => .bad
    | false => .bad
def whileL (c : Env → M Bool) (f : Env → M Fl) : Nat → Env → M Fl
  | 0, _ => fun _ => .bad
  | n + 1, env => fun T => match c env T with
    | .ok true T' => match f env T' with
      | .ok (.nx env') T' => whileL c f n env' T'
      | .ok (.ct env') T' => whileL c f n env' T'
      | .ok (.bk env') T' => .ok (.nx env') T'
      | .ok (.rt d) T' => .ok (.rt d) T'
      | .bad => .bad
    | .ok false T' => .ok (.nx env) T'
    | .bad => .bad

mutual
/-- its cells lie below n -/
def closD (n : Nat) : D → Bool
  | .tup xs => closL n xs
  | .lst xs => closL n xs
  | .ext _ xs => closL n xs
  | .ref k => Nat.blt k n
  | .obj _ _ fs => closL n fs
  | .lab xs => closL n xs
  | _ => true
def closL (n : Nat) : List D → Bool
  | [] => true
  | x :: xs => closD n x && closL n xs
end
def sameKV : List (D × D) → List (D × D) → Bool
  | [], [] => true
  | (a, b) :: r, (c, d) :: q => sameD a c && sameD b d && sameKV r q
  | _, _ => false
def sameC : Cell → Cell → Bool
  | .dead, .dead => true
  | .lst a, .lst b => sameL a b
  | .dic t a, .dic u b => t == u && sameKV a b
  | .obj a b c, .obj e f g => beqS a e && sameN b f && sameL c g
  | _, _ => false
def sameS : Store → Store → Bool
  | [], [] => true
  | x :: xs, y :: ys => sameC x y && sameS xs ys
  | _, _ => false
/-- what a call leaves: if it changed nothing older and gives nothing new back, its own cells are forgotten -/
def gcS (b : Bool) (T T' : Store) (d : D) : Store := match b && closD T.length d && sameS (T'.take T.length) T with
  | true => T'.take T.length
  | false => T'
def endFn0 (T : Store) : Res Fl → Res D
  | .ok (.rt d) _ => okIf (closD 0 d) d T
  | .ok (.nx _) _ => .ok .non T
  | _ => .bad
def endFn (b : Bool) (T : Store) : Res Fl → Res D
  | .ok (.rt d) T' => .ok d (gcS b T T' d)
  | .ok (.nx _) T' => .ok .non (gcS b T T' .non)
  | _ => .bad
section
variable (P : Prog) (call : Nat → List D → M D)
/-- m positional arguments and these keywords fill the parameters just once -/
def bindOk (ps : List Str) (m : Nat) (ks : List Str) : Bool := Nat.ble m ps.length && (ps.drop m).all (ks.contains ·) && ks.all ((ps.drop m).contains ·) && Nat.beq ks.length (ps.length - m)
def kwG {α : Type} (ps ks : List Str) (us ws : List α) : List α := us ++ (ps.drop us.length).filterMap fun p => (ks.zip ws).lookup p
/-- the call, defaults filled up -/
def callF (g : Nat) (ds : List D) : M D := match P.fns[g]? with
  | some fn => call g (fillD fn ds)
  | none => fail
/-- x.f : an attribute, a property -/
def attD (x : D) (f : Str) : M D := fun T => match objOf T x with
  | some (c, ns, fs) => match clsIn c P.cls with
    | some cd => match hasS f cd.flds with
      | true => match fldOf f ns fs with
        | some d => .ok d T
        | none => .bad
      | false => match lkS f cd.prps with
        | some g => call g [x] T
        | none => .bad
    | none => .bad
  | none => .bad
/-- the method m of x -/
def methOf (x : D) (m : Str) : M Nat := fun T => match objOf T x with
  | some (c, ns, fs) => match clsIn c P.cls with
    | some cd => match hasS m ns with
      | true => .bad
      | false => match lkS m cd.mths with
        | some g => .ok g T
        | none => .bad
    | none => .bad
  | none => .bad
/-- a new instance -/
def makeD (z : Bool) (c : Str) (ds : List D) : M D := fun T => match clsIn c P.cls with
  | some cd => match lkS "__init__" cd.mths with
    | some g => match callF P call g (.ref T.length :: ds) (T ++ [.obj c [] []]) with
      | .ok .non T' => match z with
        | false => .ok (.ref T.length) T'
        | true => match T'[T.length]? with
          | some (.obj c' ns fs) => .ok (.obj c' ns fs) (gcS true T (T'.set T.length .dead) (.obj c' ns fs))
          | _ => .bad
      | _ => .bad
    | none => .bad
  | none => .bad
def statOf (c m : Str) : Option Nat := match clsIn c P.cls with
  | some cd => lkS m cd.stas
  | none => none
def oopN : OOp → Str
  | .add => "__add__"
  | .rshift => "__rshift__"
/-- its type is told -/
def tyKnown (T : Store) (y : D) : Bool := match objOf T y with
  | some (c, _, _) => (clsIn c P.cls).isSome
  | none => (tyD T y .int).isSome
/-- of the same class -/
def sameCls (T : Store) (x y : D) : Bool := match objOf T x, objOf T y with
  | some (c, _, _), some (c', _, _) => beqS c c'
  | _, _ => false
def eqOD (neg : Bool) (x y : D) : M D := do
  let g ← methOf P x "__eq__"
  let _ ← (fun T => okIf (tyKnown P T y) () T : M Unit)
  let r ← call g [x, y]
  let k ← boolD r
  pure (.bl (k != neg))
def lenOD (x : D) : M D := do
  let g ← methOf P x "__len__"
  let r ← call g [x]
  match r with
  | .int n => fun T => okIf (decide (0 ≤ n) && decide (n < 2 ^ 63)) (.int n) T
  | _ => fail
def idxOD (x i : D) : M D := do
  let g ← methOf P x "__getitem__"
  call g [x, i]
def inOD (neg : Bool) (x o : D) : M D := do
  let g ← methOf P o "__contains__"
  let r ← call g [o, x]
  let k ← boolD r
  pure (.bl (k != neg))
def isOne (T : Store) (x : D) (t : TyO) : Option Bool := match t with
  | .blt t => match objOf T x with
    | some (c, _, _) => match clsIn c P.cls with
      | some _ => some false
      | none => none
    | none => tyD T x t
  | .own c => match clsIn c P.cls with
    | none => none
    | some _ => match objOf T x with
      | some (c', _, _) => match clsIn c' P.cls with
        | some _ => some (beqS c' c)
        | none => none
      | none => match tyD T x .int with
        | some _ => some false
        | none => none
def isOD (x : D) (ts : List TyO) : M D := fun T => optB (go T ts) T
where go (T : Store) : List TyO → Option Bool
  | [] => some false
  | t :: r => match isOne P T x t, go T r with
    | some a, some b => some (a || b)
    | _, _ => none
def binOD (op : OOp) (x y : D) : M D := do
  let g ← methOf P x (oopN op)
  let _ ← (fun T => okIf (sameCls T x y) () T : M Unit)
  call g [x, y]
def callOD (x : D) (ds : List D) : M D := do
  let g ← methOf P x "__call__"
  callF P call g (x :: ds)
mutual
def evalE : E → Env → M D
  | .non, _ => pure .non
  | .bl b, _ => pure (.bl b)
  | .int i, _ => pure (.int i)
  | .str x, _ => pure (.str x)
  | .var i, env => match env[i]? with
    | some (some d) => pure d
    | _ => fail
  | .glo j, _ => match P.cns[j]? with
    | some p => pure p.2
    | none => fail
  | .bin op a b, env => do
    let x ← evalE a env
    let y ← evalE b env
    opD op x y
  | .neg a, env => do
    let x ← evalE a env
    negD x
  | .not a, env => do
    let x ← evalE a env
    notD x
  | .cmp op a b, env => do
    let x ← evalE a env
    let y ← evalE b env
    cmpD op x y
  | .cmp2 op op' a b c, env => do
    let x ← evalE a env
    let y ← evalE b env
    let r ← cmpD op x y
    let k ← boolD r
    match k with
    | true => do
      let z ← evalE c env
      cmpD op' y z
    | false => pure (.bl false)
  | .and a b, env => do
    let x ← evalE a env
    let k ← boolD x
    match k with
    | true => evalE b env
    | false => pure (.bl false)
  | .or a b, env => do
    let x ← evalE a env
    let k ← boolD x
    match k with
    | true => pure (.bl true)
    | false => evalE b env
  | .orT a b, env => do
    let x ← evalE a env
    fun T => match isList T x with
      | some [] => (do
        let y ← evalE b env
        listOnly y) T
      | some _ => .ok x T
      | none => .bad
  | .ite c a b, env => do
    let x ← evalE c env
    let k ← boolD x
    match k with
    | true => evalE a env
    | false => evalE b env
  | .tup es, env => do
    let ds ← evalEs es env
    fun T => okIf (lim ds.length) (.tup ds) T
  | .lst es, env => do
    let ds ← evalEs es env
    fun T => okIf (lim ds.length) (.lst ds) T
  | .idx a i, env => do
    let x ← evalE a env
    let y ← evalE i env
    idxD x y
  | .slc a lo hi, env => do
    let x ← evalE a env
    let l ← evalO lo env
    let h ← evalO hi env
    slcD x l h
  | .call f args, env => do
    let ds ← evalEs args env
    call f ds
  | .callK f args ks kws, env => do
    let ds ← evalEs args env
    let ws ← evalEs kws env
    match P.fns[f]? with
    | some fn => match bindOk fn.ps ds.length ks && Nat.beq ws.length ks.length && fn.kws.contains ks with
      | true => call f (kwG fn.ps ks ds ws)
      | false => fail
    | none => fail
  | .blt b args, env => do
    let ds ← evalEs args env
    bltD b ds
  | .isi a ts, env => do
    let x ← evalE a env
    isiD x ts
  | .mth m o args, env => do
    let x ← evalE o env
    let _ ← (fun T => okIf (tyOk m x T) () T : M Unit)
    let ds ← evalEs args env
    mthD m x ds
  | .comp own t it c e, env => do
    let w ← evalI it env
    let ys ← compL w.2 (fun x => match bindT t x (wipeE env own) with
      | some env1 => do
        let k ← evalC c env1
        match k with
        | true => do
          let y ← evalE e env1
          pure (some y)
        | false => pure none
      | none => fail) w.1 []
    pure (.lst ys)
  | .dcomp tk own t it c k v, env => do
    let w ← evalI it env
    let kvs ← dcompL tk w.2 (fun x => match bindT t x (wipeE env own) with
      | some env1 => do
        let b ← evalC c env1
        match b with
        | true => do
          let y ← evalE k env1
          let z ← evalE v env1
          pure (some (y, z))
        | false => pure none
      | none => fail) w.1 []
    newCell (.dic tk kvs)
  | .dict0 t, _ => newCell (.dic t [])
  | .sset a, env => do
    let y ← evalE a env
    ssetD y
  | .mut a, env => do
    let x ← evalE a env
    mutD x
  | .frz a, env => do
    let x ← evalE a env
    frzD x
  | .bad, _ => fail
  | .att a f, env => do
    let x ← evalE a env
    attD P call x f
  | .meth a m args, env => do
    let x ← evalE a env
    let g ← methOf P x m
    let ds ← evalEs args env
    callF P call g (x :: ds)
  | .make z c args, env => do
    let ds ← evalEs args env
    makeD P call z c ds
  | .stat c m args, env => match statOf P c m with
    | some g => do
      let ds ← evalEs args env
      callF P call g ds
    | none => fail
  | .callO a args, env => do
    let x ← evalE a env
    let ds ← evalEs args env
    callOD P call x ds
  | .eqO neg a b, env => do
    let x ← evalE a env
    let y ← evalE b env
    eqOD P call neg x y
  | .lenO a, env => do
    let x ← evalE a env
    lenOD P call x
  | .idxO a i, env => do
    let x ← evalE a env
    let y ← evalE i env
    idxOD P call x y
  | .inO neg x a, env => do
    let x ← evalE x env
    let y ← evalE a env
    inOD P call neg x y
  | .binO op a b, env => do
    let x ← evalE a env
    let y ← evalE b env
    binOD P call op x y
  | .isO a ts, env => do
    let x ← evalE a env
    isOD P x ts
  | .tupS fs es, env => do
    let ds ← evalSs es fs env
    fun T => okIf (lim ds.length) (.tup ds) T
  | .labS fs es, env => do
    let ds ← evalSs es fs env
    fun T => okIf (lim ds.length) (.lab ds) T
  | .labT a, env => do
    let x ← evalE a env
    labTD x
  | .lstS fs es, env => do
    let ds ← evalSs es fs env
    fun T => okIf (lim ds.length) (.lst ds) T
  | .itemsL a, env => do
    let x ← evalE a env
    itemsD x
  | .sortedK a, env => do
    let x ← evalE a env
    sortedKD x
  | .minT a, env => do
    let x ← evalE a env
    minTD x
  | .maxT a, env => do
    let x ← evalE a env
    maxTD x
  | .tupStr a, env => do
    let x ← evalE a env
    tupStrD x
  | .rev a, env => do
    let x ← evalE a env
    revD x
  | .comp2 own t it c own2 t2 it2 c2 e, env => do
    let w ← evalI it env
    let ys ← compL2 w.2 (fun x acc => match bindT t x (wipeE env own) with
      | some env1 => do
        let k ← evalC c env1
        match k with
        | true => do
          let w2 ← evalI it2 env1
          compL w2.2 (fun x2 => match bindT t2 x2 (wipeE env1 own2) with
            | some env2 => do
              let k ← evalC c2 env2
              match k with
              | true => do
                let y ← evalE e env2
                pure (some y)
              | false => pure none
            | none => fail) w2.1 acc
        | false => pure acc.reverse
      | none => fail) w.1 []
    pure (.lst ys)
def evalSs : List E → List Bool → Env → M (List D)
  | [], _, _ => pure []
  | e :: es, fs, env => match fs with
    | true :: fs => do
      let x ← evalE e env
      let xs ← seqD x
      let ys ← evalSs es fs env
      pure (xs ++ ys)
    | false :: fs => do
      let x ← evalE e env
      let xs ← evalSs es fs env
      pure (x :: xs)
    | [] => fail
def evalEs : List E → Env → M (List D)
  | [], _ => pure []
  | e :: es, env => do
    let x ← evalE e env
    let xs ← evalEs es env
    pure (x :: xs)
def evalO : Option E → Env → M (Option Int)
  | none, _ => pure none
  | some e, env => do
    let x ← evalE e env
    match x with
    | .int i => pure (some i)
    | _ => fail
def evalC : Option E → Env → M Bool
  | none, _ => pure true
  | some e, env => do
    let x ← evalE e env
    boolD x
def evalI : I → Env → M Walk
  | .seq e, env => do
    let x ← evalE e env
    seqWalk x
  | .rng1 a, env => do
    let x ← evalE a env
    rng1D x
  | .rng2 a b, env => do
    let x ← evalE a env
    let y ← evalE b env
    rng2D x y
  | .enum e, env => do
    let x ← evalE e env
    enumWalk x
  | .zip a b, env => do
    let x ← evalE a env
    let y ← evalE b env
    zipWalk x y
  | .enumZip a b, env => do
    let x ← evalE a env
    let y ← evalE b env
    ezWalk x y
  | .enumT e, env => do
    let x ← evalE e env
    enumTWalk x
  | .zip3 _ _ _, _ => fail
end
def evalT (e : E) (env : Env) : M Bool := do
  let x ← evalE P call e env
  boolD x

/-- x.f = v -/
def setF (x : D) (f : Str) (v : D) : M Unit := fun T => match x with
  | .ref n => match T[n]? with
    | some (.obj c ns fs) => match clsIn c P.cls with
      | some cd => match hasS f cd.flds && Nat.blt ns.length 900 with
        | true => .ok () (T.set n (.obj c (putN f ns) (putD f v ns fs)))
        | false => .bad
      | none => .bad
    | _ => .bad
  | _ => .bad
def setFs (x : D) : List Str → List D → M Unit
  | [], [] => pure ()
  | f :: fs, v :: vs => do
    setF P x f v
    setFs x fs vs
  | _, _ => fail
mutual
def exec : S → Env → M Fl
  | .expr e, env => do
    let _ ← evalE P call e env
    pure (.nx env)
  | .asg t e, env => do
    let x ← evalE P call e env
    match bindT t x env with
    | some env' => pure (.nx env')
    | none => fail
  | .par2 i j a b, env => do
    let x ← evalE P call a env
    let y ← evalE P call b env
    pure (.nx ((env.set i (some x)).set j (some y)))
  | .par3 i j l a b c, env => do
    let x ← evalE P call a env
    let y ← evalE P call b env
    let z ← evalE P call c env
    pure (.nx (((env.set i (some x)).set j (some y)).set l (some z)))
  | .asgIdx o i e, env => do
    let v ← evalE P call e env
    let x ← evalE P call o env
    let k ← evalE P call i env
    setIdx x k v
    pure (.nx env)
  | .aug i op e, env => do
    let x ← (match env[i]? with
      | some (some d) => pure d
      | _ => fail : M D)
    let y ← evalE P call e env
    let z ← augD op x y
    pure (.nx (env.set i (some z)))
  | .ret e, env => do
    let x ← evalE P call e env
    pure (.rt x)
  | .retN, _ => pure (.rt .non)
  | .ifs c a b, env => do
    let k ← evalT P call c env
    match k with
    | true => execs a env
    | false => execs b env
  | .loop t it body, env => do
    let w ← evalI P call it env
    forL w.2 (fun x env1 => match bindT t x env1 with
      | some env2 => execs body env2
      | none => fail) w.1 env
  | .whil n c body, env => whileL (evalT P call c) (execs body) n env
  | .brk, env => pure (.bk env)
  | .cnt, env => pure (.ct env)
  | .pass, env => pure (.nx env)
  | .bad, _ => fail
  | .asgF o f e, env => do
    let v ← evalE P call e env
    let x ← evalE P call o env
    setF P x f v
    pure (.nx env)
  | .parF o fs es, env => do
    let vs ← evalEs P call es env
    let x ← evalE P call o env
    setFs P x fs vs
    pure (.nx env)
def execs : List S → Env → M Fl
  | [], env => pure (.nx env)
  | s :: ss, env => do
    let f ← exec s env
    match f with
    | .nx env' => execs ss env'
    | f => pure f
end
/-- a def's run; one without parameters runs in a store of its own -/
def runFn (f : Nat) (ds : List D) : M D := match P.fns[f]? with
  | none => fail
  | some fn => match Nat.beq ds.length fn.ps.length && Nat.ble fn.ps.length fn.N.length with
    | false => fail
    | true => match ds with
      | [] => fun T => endFn0 T (execs P call fn.body (([] : List D).map some ++ List.replicate (fn.N.length - ([] : List D).length) none) [])
      | d :: ds => fun T => endFn fn.gc T (execs P call fn.body ((d :: ds).map some ++ List.replicate (fn.N.length - (d :: ds).length) none) T)
end
/-- calls, to a depth -/
def callN (P : Prog) : Nat → Nat → List D → M D
  | 0 => fun _ _ => fail
  | n + 1 => runFn P (callN P n)
end Pz

set_option Elab.async false
set_option linter.all false
set_option maxRecDepth 100000
/-! I2: what the model's heap has to do with the store. -/
namespace Pz
open PySem PySem.Spec L2

theorem beqN_eq : ∀ (a b : List Nat), beqN a b = true → a = b
  | [], [], _ => rfl
  | [], _ :: _, h => by cases h
  | _ :: _, [], h => by cases h
  | x :: xs, y :: ys, h => by
    simp only [beqN, Bool.and_eq_true] at h
    rw [Nat.eq_of_beq_eq_true h.1, beqN_eq xs ys h.2]
theorem beqN_rfl : ∀ (a : List Nat), beqN a a = true
  | [] => rfl
  | x :: xs => by
    simp only [beqN, Bool.and_eq_true]
    exact ⟨Nat.beq_refl x, beqN_rfl xs⟩
theorem beqS_eq {a b : Str} (h : beqS a b = true) : a = b := by
  have := beqN_eq _ _ h
  cases a; cases b
  simp only [Str.mk.injEq]
  exact Array.toList_inj.mp this
theorem beqS_rfl (a : Str) : beqS a a = true := beqN_rfl _
theorem beqS_iff {a b : Str} : beqS a b = true ↔ a = b := ⟨beqS_eq, fun h => h ▸ beqS_rfl a⟩
theorem beqS_dec (a b : Str) : beqS a b = decide (a = b) := by
  by_cases h : a = b
  · subst h; rw [beqS_rfl]; simp
  · cases e : beqS a b with
    | false => simp [h]
    | true => exact absurd (beqS_eq e) h

/-- how data lies in the heap: the cells' addresses; what is frozen; what is kept aside -/
structure Rho where
  cell : List Addr
  fz : Addr → Prop
  kp : Addr → Prop

/-- a tuple that is tracked and frozen -/
def TupAt (R : Rho) (H : Hp) (a : Addr) (vs : List V) : Prop := R.fz a ∧ H a = some (.tup vs)
def LstAt (R : Rho) (H : Hp) (a : Addr) (vs : List V) : Prop := R.fz a ∧ H a = some (.lst vs)
/-- an instance, frozen -/
def InsAt (K : PySem.W.Frag) (R : Rho) (H : Hp) (c : Str) (ns : List Str) (a : Addr) (vs : List V) : Prop := R.fz a ∧ ∃ dx, H a = some (.ins (He.ga K c) dx (ns.zip vs)) ∧ ns.length = vs.length
/-- a tuple that is locked as it was made -/
def LabAt (R : Rho) (H : Hp) (a : Addr) (vs : List V) : Prop := R.fz a ∧ ∃ o, H a = some (.frz o (.tup vs)) ∧ o.dict = none
/-- a written tuple; the script -/
def ExtAt (K : PySem.W.Frag) (R : Rho) (H : Hp) (t : Bool) (a : Addr) (vs : List V) : Prop := match t with
  | true => SqT K (fun _ => none) a vs
  | false => (R.fz a ∨ SqL K (fun _ => none) a vs) ∧ SqL K H a vs

mutual
def Rep (K : PySem.W.Frag) (R : Rho) (H : Hp) : D → V → Prop
  | .non, v => v = .non
  | .bl b, v => v = .bl b
  | .int i, v => v = .int i
  | .str x, v => v = .str x
  | .tup ds, v => ∃ a vs, v = .ref a ∧ TupAt R H a vs ∧ Reps K R H ds vs
  | .lst ds, v => ∃ a vs, v = .ref a ∧ LstAt R H a vs ∧ Reps K R H ds vs
  | .ext t ds, v => ∃ a vs, v = .ref a ∧ ExtAt K R H t a vs ∧ Reps K R H ds vs
  | .ref n, v => ∃ a, v = .ref a ∧ R.cell[n]? = some a
  | .obj c ns ds, v => ∃ a vs, v = .ref a ∧ InsAt K R H c ns a vs ∧ Reps K R H ds vs
  | .lab ds, v => ∃ a vs, v = .ref a ∧ LabAt R H a vs ∧ Reps K R H ds vs
def Reps (K : PySem.W.Frag) (R : Rho) (H : Hp) : List D → List V → Prop
  | [], vs => vs = []
  | d :: ds, vs => ∃ v r, vs = v :: r ∧ Rep K R H d v ∧ Reps K R H ds r
end

/-- later: more cells, more that is frozen; what was frozen is as it was -/
structure LeW (R : Rho) (H : Hp) (R' : Rho) (H' : Hp) : Prop where
  cell : ∃ more, R'.cell = R.cell ++ more
  fz : ∀ a, R.fz a → R'.fz a ∧ H' a = H a
/-- .. and what was kept aside -/
structure Le (R : Rho) (H : Hp) (R' : Rho) (H' : Hp) : Prop where
  cell : ∃ more, R'.cell = R.cell ++ more
  fz : ∀ a, R.fz a → R'.fz a ∧ H' a = H a
  kp : R'.kp = R.kp
  kh : ∀ a, R.kp a → H' a = H a
theorem Le.w {R R' : Rho} {H H' : Hp} (l : Le R H R' H') : LeW R H R' H' := ⟨l.cell, l.fz⟩
theorem LeW.trans {R R1 R2 : Rho} {H H1 H2 : Hp} (a : LeW R H R1 H1) (b : LeW R1 H1 R2 H2) : LeW R H R2 H2 := by
  obtain ⟨m1, e1⟩ := a.cell
  obtain ⟨m2, e2⟩ := b.cell
  refine ⟨⟨m1 ++ m2, by rw [e2, e1, List.append_assoc]⟩, fun c h => ?_⟩
  obtain ⟨f1, h1⟩ := a.fz c h
  obtain ⟨f2, h2⟩ := b.fz c f1
  exact ⟨f2, h2.trans h1⟩
theorem Le.refl (R : Rho) (H : Hp) : Le R H R H := ⟨⟨[], by simp⟩, fun _ h => ⟨h, rfl⟩, rfl, fun _ _ => rfl⟩
theorem Le.trans {R R1 R2 : Rho} {H H1 H2 : Hp} (a : Le R H R1 H1) (b : Le R1 H1 R2 H2) : Le R H R2 H2 := by
  obtain ⟨m1, e1⟩ := a.cell
  obtain ⟨m2, e2⟩ := b.cell
  refine ⟨⟨m1 ++ m2, by rw [e2, e1, List.append_assoc]⟩, fun c h => ?_, b.kp.trans a.kp, fun c h => ?_⟩
  · obtain ⟨f1, h1⟩ := a.fz c h
    obtain ⟨f2, h2⟩ := b.fz c f1
    exact ⟨f2, h2.trans h1⟩
  · exact (b.kh c (by rw [a.kp]; exact h)).trans (a.kh c h)
section
variable {K : PySem.W.Frag} {R R' : Rho} {H H' : Hp}
theorem LeW.get (l : LeW R H R' H') {n : Nat} {a : Addr} (h : R.cell[n]? = some a) : R'.cell[n]? = some a := by
  obtain ⟨m, e⟩ := l.cell
  rw [e, List.getElem?_append_left (List.getElem?_eq_some_iff.mp h).1]
  exact h
theorem Le.get (l : Le R H R' H') {n : Nat} {a : Addr} (h : R.cell[n]? = some a) : R'.cell[n]? = some a := l.w.get h
theorem TupAt.monoW {a : Addr} {vs : List V} (h : TupAt R H a vs) (l : LeW R H R' H') : TupAt R' H' a vs := by
  obtain ⟨f, e⟩ := h
  obtain ⟨f', e'⟩ := l.fz a f
  exact ⟨f', by rw [e', e]⟩
theorem TupAt.mono {a : Addr} {vs : List V} (h : TupAt R H a vs) (l : Le R H R' H') : TupAt R' H' a vs := h.monoW l.w
theorem LstAt.monoW {a : Addr} {vs : List V} (h : LstAt R H a vs) (l : LeW R H R' H') : LstAt R' H' a vs := by
  obtain ⟨f, e⟩ := h
  obtain ⟨f', e'⟩ := l.fz a f
  exact ⟨f', by rw [e', e]⟩
theorem LabAt.monoW {a : Addr} {vs : List V} (h : LabAt R H a vs) (l : LeW R H R' H') : LabAt R' H' a vs := by
  obtain ⟨f, o, e, q⟩ := h
  obtain ⟨f', e'⟩ := l.fz a f
  exact ⟨f', o, by rw [e', e], q⟩
theorem InsAt.monoW {c : Str} {ns : List Str} {a : Addr} {vs : List V} (h : InsAt K R H c ns a vs) (l : LeW R H R' H') : InsAt K R' H' c ns a vs := by
  obtain ⟨f, dx, e, q⟩ := h
  obtain ⟨f', e'⟩ := l.fz a f
  exact ⟨f', dx, by rw [e', e], q⟩
theorem ExtAt.monoW {t : Bool} {a : Addr} {vs : List V} (h : ExtAt K R H t a vs) (l : LeW R H R' H') : ExtAt K R' H' t a vs := by
  cases t with
  | true => exact h
  | false =>
    obtain ⟨f, e⟩ := h
    rcases f with f | f
    rotate_left
    · rcases f with f | f
      · rcases f with f | ⟨o, f⟩ <;> cases f
      · exact ⟨.inr (.inr f), .inr f⟩
    obtain ⟨f', e'⟩ := l.fz a f
    refine ⟨.inl f', ?_⟩
    rcases e with (e | ⟨o, e⟩) | e
    · exact .inl (.inl (by rw [e', e]))
    · exact .inl (.inr ⟨o, by rw [e', e]⟩)
    · exact .inr e
mutual
theorem Rep.monoW (l : LeW R H R' H') : ∀ (d : D) (v : V), Rep K R H d v → Rep K R' H' d v
  | .non, _, h => h
  | .bl _, _, h => h
  | .int _, _, h => h
  | .str _, _, h => h
  | .tup ds, v, h => by
    obtain ⟨a, vs, e, t, r⟩ := h
    exact ⟨a, vs, e, t.monoW l, Reps.monoW l ds vs r⟩
  | .lst ds, v, h => by
    obtain ⟨a, vs, e, t, r⟩ := h
    exact ⟨a, vs, e, t.monoW l, Reps.monoW l ds vs r⟩
  | .ext t ds, v, h => by
    obtain ⟨a, vs, e, t', r⟩ := h
    exact ⟨a, vs, e, t'.monoW l, Reps.monoW l ds vs r⟩
  | .ref n, v, h => by
    obtain ⟨a, e, c⟩ := h
    exact ⟨a, e, l.get c⟩
  | .obj c ns ds, v, h => by
    obtain ⟨a, vs, e, t, r⟩ := h
    exact ⟨a, vs, e, t.monoW l, Reps.monoW l ds vs r⟩
  | .lab ds, v, h => by
    obtain ⟨a, vs, e, t, r⟩ := h
    exact ⟨a, vs, e, t.monoW l, Reps.monoW l ds vs r⟩
theorem Reps.monoW (l : LeW R H R' H') : ∀ (ds : List D) (vs : List V), Reps K R H ds vs → Reps K R' H' ds vs
  | [], _, h => h
  | d :: ds, vs, h => by
    obtain ⟨v, r, e, h1, h2⟩ := h
    exact ⟨v, r, e, Rep.monoW l d v h1, Reps.monoW l ds r h2⟩
end
theorem Rep.mono (l : Le R H R' H') (d : D) (v : V) (h : Rep K R H d v) : Rep K R' H' d v := Rep.monoW l.w d v h
theorem Reps.mono (l : Le R H R' H') (ds : List D) (vs : List V) (h : Reps K R H ds vs) : Reps K R' H' ds vs := Reps.monoW l.w ds vs h
theorem Reps.length : ∀ {ds : List D} {vs : List V}, Reps K R H ds vs → vs.length = ds.length
  | [], vs, h => by cases h; rfl
  | d :: ds, vs, h => by
    obtain ⟨v, r, rfl, _, h2⟩ := h
    simp [Reps.length h2]
theorem Reps.get : ∀ {ds : List D} {vs : List V} {i : Nat} {d : D}, Reps K R H ds vs → ds[i]? = some d → ∃ v, vs[i]? = some v ∧ Rep K R H d v
  | [], _, _, _, _, e => by simp at e
  | d :: ds, vs, 0, _, h, e => by
    obtain ⟨v, r, rfl, h1, _⟩ := h
    simp at e
    subst e
    exact ⟨v, rfl, h1⟩
  | d :: ds, vs, i + 1, _, h, e => by
    obtain ⟨v, r, rfl, _, h2⟩ := h
    obtain ⟨u, e1, e2⟩ := Reps.get (i := i) h2 (by simpa using e)
    exact ⟨u, by simpa using e1, e2⟩
theorem Reps.append : ∀ {ds es : List D} {vs us : List V}, Reps K R H ds vs → Reps K R H es us → Reps K R H (ds ++ es) (vs ++ us)
  | [], _, vs, _, h, q => by cases h; exact q
  | d :: ds, _, vs, _, h, q => by
    obtain ⟨v, r, rfl, h1, h2⟩ := h
    exact ⟨v, _, rfl, h1, Reps.append h2 q⟩
theorem Reps.take : ∀ {ds : List D} {vs : List V} (n : Nat), Reps K R H ds vs → Reps K R H (ds.take n) (vs.take n)
  | _, _, 0, _ => by simp [Reps]
  | [], vs, n + 1, h => by cases h; simp [Reps]
  | d :: ds, vs, n + 1, h => by
    obtain ⟨v, r, rfl, h1, h2⟩ := h
    exact ⟨v, _, rfl, h1, Reps.take n h2⟩
theorem Reps.drop : ∀ {ds : List D} {vs : List V} (n : Nat), Reps K R H ds vs → Reps K R H (ds.drop n) (vs.drop n)
  | ds, vs, 0, h => h
  | [], vs, n + 1, h => by cases h; simp [Reps]
  | d :: ds, vs, n + 1, h => by
    obtain ⟨v, r, rfl, h1, h2⟩ := h
    exact Reps.drop n h2
theorem Reps.set {d : D} {v : V} (q : Rep K R H d v) : ∀ {ds : List D} {vs : List V} (n : Nat), Reps K R H ds vs → Reps K R H (ds.set n d) (vs.set n v)
  | [], vs, _, h => by cases h; simp [Reps]
  | d' :: ds, vs, 0, h => by
    obtain ⟨v', r, rfl, _, h2⟩ := h
    exact ⟨v, r, rfl, q, h2⟩
  | d' :: ds, vs, n + 1, h => by
    obtain ⟨v', r, rfl, h1, h2⟩ := h
    exact ⟨v', _, rfl, h1, Reps.set q n h2⟩
theorem Reps.one {d : D} {v : V} (h : Rep K R H d v) : Reps K R H [d] [v] := ⟨v, [], rfl, h, rfl⟩
theorem Reps.cons {d : D} {v : V} {ds : List D} {vs : List V} (h : Rep K R H d v) (t : Reps K R H ds vs) : Reps K R H (d :: ds) (v :: vs) := ⟨v, vs, rfl, h, t⟩
end

def alive : Cell → Bool
  | .dead => false
  | _ => true
/-- a key of a dict as the layer has it: an int or a text -/
def keyK : D → Option Key
  | .int i => some (.inl i)
  | .str x => some (.inr x)
  | _ => none
def keyT : D → Option (List Key)
  | .tup ds => ds.mapM keyK
  | _ => none
def PairsK (K : PySem.W.Frag) (R : Rho) (H : Hp) : List (D × D) → List (Key × V) → Prop
  | [], ks => ks = []
  | (k, d) :: r, ks => ∃ k' v r', ks = (k', v) :: r' ∧ keyK k = some k' ∧ Rep K R H d v ∧ PairsK K R H r r'
def PairsT (K : PySem.W.Frag) (R : Rho) (H : Hp) : List (D × D) → List (List Key × V) → Prop
  | [], ks => ks = []
  | (k, d) :: r, ks => ∃ k' v r', ks = (k', v) :: r' ∧ keyT k = some k' ∧ Rep K R H d v ∧ PairsT K R H r r'
def CellOk (K : PySem.W.Frag) (R : Rho) (H : Hp) (a : Addr) : Cell → Prop
  | .dead => True
  | .lst ds => ∃ vs, H a = some (.lst vs) ∧ Reps K R H ds vs
  | .dic false kvs => ∃ ks, H a = some (.dK ks) ∧ PairsK K R H kvs ks
  | .dic true kvs => ∃ ks, H a = some (.dT ks) ∧ PairsT K R H kvs ks
  | .obj c ns ds => ∃ vs, (∃ dx, H a = some (.ins (He.ga K c) dx (ns.zip vs)) ∧ ns.length = vs.length) ∧ Reps K R H ds vs

/-- no tuple -/
def noTup : HO → Bool
  | .tup _ => false
  | _ => true
/-- the store is held by the heap -/
structure StOk (K : PySem.W.Frag) (R : Rho) (T : Store) (H : Hp) : Prop where
  len : R.cell.length = T.length
  cell : ∀ (n : Nat) a c, R.cell[n]? = some a → T[n]? = some c → alive c = true → CellOk K R H a c ∧ ¬ R.fz a ∧ ¬ R.kp a
  inj : ∀ (n m : Nat) a c c', R.cell[n]? = some a → R.cell[m]? = some a → T[n]? = some c → T[m]? = some c' → alive c = true → alive c' = true → n = m
  fz : ∀ a, R.fz a → ∃ o, H a = some o
  kp : ∀ a, R.kp a → ¬ R.fz a ∧ ∃ o, H a = some o ∧ noTup o = true

section
variable {K : PySem.W.Frag} {R R' : Rho} {H H' : Hp} {T : Store}
theorem StOk.kpH (s : StOk K R T H) {a : Addr} (h : R.kp a) : ∃ o, H a = some o := let ⟨_, o, e, _⟩ := s.kp a h; ⟨o, e⟩
theorem PairsK.monoW (l : LeW R H R' H') : ∀ {kvs : List (D × D)} {ks : List (Key × V)}, PairsK K R H kvs ks → PairsK K R' H' kvs ks
  | [], _, h => h
  | (k, d) :: r, _, h => by
    obtain ⟨k', v, r', e, e1, h1, h2⟩ := h
    exact ⟨k', v, r', e, e1, Rep.monoW l d v h1, PairsK.monoW l h2⟩
theorem PairsT.monoW (l : LeW R H R' H') : ∀ {kvs : List (D × D)} {ks : List (List Key × V)}, PairsT K R H kvs ks → PairsT K R' H' kvs ks
  | [], _, h => h
  | (k, d) :: r, _, h => by
    obtain ⟨k', v, r', e, e1, h1, h2⟩ := h
    exact ⟨k', v, r', e, e1, Rep.monoW l d v h1, PairsT.monoW l h2⟩
theorem PairsK.mono (l : Le R H R' H') {kvs : List (D × D)} {ks : List (Key × V)} (h : PairsK K R H kvs ks) : PairsK K R' H' kvs ks := h.monoW l.w
theorem PairsT.mono (l : Le R H R' H') {kvs : List (D × D)} {ks : List (List Key × V)} (h : PairsT K R H kvs ks) : PairsT K R' H' kvs ks := h.monoW l.w
theorem CellOk.monoW {a : Addr} {c : Cell} (l : LeW R H R' H') (e : H' a = H a) (h : CellOk K R H a c) : CellOk K R' H' a c := by
  cases c with
  | dead => trivial
  | lst ds =>
    obtain ⟨vs, q, r⟩ := h
    exact ⟨vs, by rw [e, q], Reps.monoW l ds vs r⟩
  | dic t kvs =>
    cases t <;> (obtain ⟨ks, q, r⟩ := h; exact ⟨ks, by rw [e, q], r.monoW l⟩)
  | obj c ns ds =>
    obtain ⟨vs, ⟨dx, q, n⟩, r⟩ := h
    exact ⟨vs, ⟨dx, by rw [e, q], n⟩, Reps.monoW l ds vs r⟩
theorem CellOk.mono {a : Addr} {c : Cell} (l : Le R H R' H') (e : H' a = H a) (h : CellOk K R H a c) : CellOk K R' H' a c := h.monoW l.w e
theorem CellOk.tracked {a : Addr} {c : Cell} (h : CellOk K R H a c) (al : alive c = true) : ∃ o, H a = some o := by
  cases c with
  | dead => cases al
  | lst ds =>
    obtain ⟨vs, q, _⟩ := h
    exact ⟨_, q⟩
  | dic t kvs =>
    cases t <;> (obtain ⟨ks, q, _⟩ := h; exact ⟨_, q⟩)
  | obj c ns ds =>
    obtain ⟨vs, ⟨dx, q, _⟩, _⟩ := h
    exact ⟨_, q⟩
/-- a new object, frozen -/
theorem StOk.newFz (s : StOk K R T H) {p : Addr} {o : HO} (hp : H p = none) :
    Le R H { R with fz := fun a => R.fz a ∨ a = p } (upd H p o) ∧ StOk K { R with fz := fun a => R.fz a ∨ a = p } T (upd H p o) := by
  have ne : ∀ a, (∃ u, H a = some u) → a ≠ p := fun a ⟨u, e⟩ => ne_of_none e hp
  have l : Le R H { R with fz := fun a => R.fz a ∨ a = p } (upd H p o) :=
    ⟨⟨[], by simp⟩, fun a h => ⟨.inl h, upd_ne (ne a (s.fz a h))⟩, rfl, fun a h => upd_ne (ne a (s.kpH h))⟩
  refine ⟨l, ⟨s.len, fun n a c e1 e2 al => ?_, s.inj, fun a h => ?_, fun a h => ?_⟩⟩
  · obtain ⟨c1, c2, c3⟩ := s.cell n a c e1 e2 al
    have na := ne a (c1.tracked al)
    exact ⟨c1.mono l (upd_ne na), fun q => q.elim c2 na, c3⟩
  · rcases h with h | rfl
    · obtain ⟨u, e⟩ := s.fz a h
      exact ⟨u, by rw [upd_ne (ne a ⟨u, e⟩)]; exact e⟩
    · exact ⟨o, upd_same⟩
  · obtain ⟨k1, u, e, nt⟩ := s.kp a h
    exact ⟨fun q => q.elim k1 (ne a ⟨u, e⟩), u, by rw [upd_ne (ne a ⟨u, e⟩)]; exact e, nt⟩
/-- a new object, a cell -/
theorem StOk.newCell (s : StOk K R T H) {p : Addr} {o : HO} {c : Cell} (hp : H p = none)
    (hc : ∀ R', Le R H R' (upd H p o) → CellOk K R' (upd H p o) p c) :
    Le R H { R with cell := R.cell ++ [p] } (upd H p o) ∧ StOk K { R with cell := R.cell ++ [p] } (T ++ [c]) (upd H p o) := by
  have ne : ∀ a, (∃ u, H a = some u) → a ≠ p := fun a ⟨u, e⟩ => ne_of_none e hp
  have l : Le R H { R with cell := R.cell ++ [p] } (upd H p o) :=
    ⟨⟨[p], rfl⟩, fun a h => ⟨h, upd_ne (ne a (s.fz a h))⟩, rfl, fun a h => upd_ne (ne a (s.kpH h))⟩
  have old : ∀ (n : Nat) a c', (R.cell ++ [p])[n]? = some a → (T ++ [c])[n]? = some c' → (n < T.length ∧ R.cell[n]? = some a ∧ T[n]? = some c') ∨ (n = T.length ∧ a = p ∧ c' = c) := fun n a c' e1 e2 => by
    by_cases h : n < T.length
    · rw [List.getElem?_append_left (by rw [s.len]; exact h)] at e1
      rw [List.getElem?_append_left h] at e2
      exact .inl ⟨h, e1, e2⟩
    · have h2 := (List.getElem?_eq_some_iff.mp e2).1
      rw [List.length_append, List.length_singleton] at h2
      have e : n = T.length := by omega
      subst e
      rw [List.getElem?_append_right (Nat.le_refl _), Nat.sub_self] at e2
      rw [← s.len, List.getElem?_append_right (Nat.le_refl _), Nat.sub_self] at e1
      exact .inr ⟨rfl, by simpa using e1.symm, by simpa using e2.symm⟩
  refine ⟨l, ⟨by simp [s.len], fun n a c' e1 e2 al => ?_, fun n m a c1 c2 e1 e2 e3 e4 a1 a2 => ?_, fun a h => ?_, fun a h => ?_⟩⟩
  · rcases old n a c' e1 e2 with ⟨_, f1, f2⟩ | ⟨_, rfl, rfl⟩
    · obtain ⟨c1, c2, c3⟩ := s.cell n a c' f1 f2 al
      exact ⟨c1.mono l (upd_ne (ne a (c1.tracked al))), c2, c3⟩
    · exact ⟨hc _ l, fun q => ne _ (s.fz _ q) rfl, fun q => ne _ (s.kpH q) rfl⟩
  · rcases old n a c1 e1 e3 with ⟨_, f1, f2⟩ | ⟨g1, rfl, rfl⟩ <;> rcases old m a c2 e2 e4 with ⟨_, f3, f4⟩ | ⟨g2, g3, rfl⟩
    · exact s.inj n m a c1 c2 f1 f3 f2 f4 a1 a2
    · subst g3
      exact absurd rfl (ne _ ((s.cell n _ c1 f1 f2 a1).1.tracked a1))
    · exact absurd rfl (ne _ ((s.cell m _ c2 f3 f4 a2).1.tracked a2))
    · omega
  · obtain ⟨u, e⟩ := s.fz a h
    exact ⟨u, by rw [upd_ne (ne a ⟨u, e⟩)]; exact e⟩
  · obtain ⟨k1, u, e, nt⟩ := s.kp a h
    exact ⟨k1, u, by rw [upd_ne (ne a ⟨u, e⟩)]; exact e, nt⟩
/-- a cell is written -/
theorem StOk.write (s : StOk K R T H) {n : Nat} {a : Addr} {o : HO} {c c0 : Cell} (e1 : R.cell[n]? = some a) (e2 : T[n]? = some c0) (al : alive c0 = true)
    (hc : ∀ R', Le R H R' (upd H a o) → CellOk K R' (upd H a o) a c) :
    Le R H R (upd H a o) ∧ StOk K R (T.set n c) (upd H a o) := by
  obtain ⟨q1, q2, q3⟩ := s.cell n a c0 e1 e2 al
  have hn : n < T.length := (List.getElem?_eq_some_iff.mp e2).1
  have l : Le R H R (upd H a o) := ⟨⟨[], by simp⟩, fun b h => ⟨h, upd_ne fun z => q2 (z ▸ h)⟩, rfl, fun b h => upd_ne fun z => q3 (z ▸ h)⟩
  have old : ∀ (m : Nat) b c', R.cell[m]? = some b → (T.set n c)[m]? = some c' → alive c' = true → (m ≠ n ∧ T[m]? = some c' ∧ b ≠ a) ∨ (m = n ∧ b = a ∧ c' = c) := fun m b c' f1 f2 a1 => by
    by_cases h : m = n
    · subst h
      rw [List.getElem?_set_self hn] at f2
      rw [e1] at f1
      exact .inr ⟨rfl, (Option.some.inj f1).symm, (Option.some.inj f2).symm⟩
    · rw [List.getElem?_set_ne (Ne.symm h)] at f2
      refine .inl ⟨h, f2, fun z => ?_⟩
      subst z
      exact h (s.inj m n b c' c0 f1 e1 f2 e2 a1 al)
  refine ⟨l, ⟨by simp [s.len], fun m b c' f1 f2 a1 => ?_, fun m k b c1 c2 f1 f2 f3 f4 a1 a2 => ?_, fun b h => ?_, fun b h => ?_⟩⟩
  · rcases old m b c' f1 f2 a1 with ⟨_, f3, nb⟩ | ⟨rfl, rfl, rfl⟩
    · obtain ⟨c1, c2, c3⟩ := s.cell m b c' f1 f3 a1
      exact ⟨c1.mono l (upd_ne nb), c2, c3⟩
    · exact ⟨hc R l, q2, q3⟩
  · rcases old m b c1 f1 f3 a1 with ⟨_, g1, nb⟩ | ⟨g1, g2, _⟩ <;> rcases old k b c2 f2 f4 a2 with ⟨_, g3, nb2⟩ | ⟨g3, g4, _⟩
    · exact s.inj m k b c1 c2 f1 f2 g1 g3 a1 a2
    · exact absurd g4 nb
    · exact absurd g2 nb2
    · rw [g1, g3]
  · obtain ⟨u, e⟩ := s.fz b h
    exact ⟨u, (l.fz b h).2.trans e⟩
  · obtain ⟨k1, u, e, nt⟩ := s.kp b h
    exact ⟨k1, u, (l.kh b h).trans e, nt⟩
/-- a cell is frozen -/
theorem StOk.freezeC (s : StOk K R T H) {n : Nat} {a : Addr} {c0 : Cell} (e1 : R.cell[n]? = some a) (e2 : T[n]? = some c0) (al0 : alive c0 = true) :
    Le R H { R with fz := fun b => R.fz b ∨ b = a } H ∧ StOk K { R with fz := fun b => R.fz b ∨ b = a } (T.set n .dead) H ∧ CellOk K R H a c0 := by
  obtain ⟨q1, q2, q3⟩ := s.cell n a _ e1 e2 al0
  obtain ⟨o, q⟩ := q1.tracked al0
  have hn : n < T.length := (List.getElem?_eq_some_iff.mp e2).1
  have l : Le R H { R with fz := fun b => R.fz b ∨ b = a } H := ⟨⟨[], by simp⟩, fun b h => ⟨.inl h, rfl⟩, rfl, fun b h => rfl⟩
  have old : ∀ (m : Nat) b c', R.cell[m]? = some b → (T.set n .dead)[m]? = some c' → alive c' = true → m ≠ n ∧ T[m]? = some c' ∧ b ≠ a := fun m b c' f1 f2 a1 => by
    by_cases h : m = n
    · subst h
      rw [List.getElem?_set_self hn] at f2
      cases f2
      cases a1
    · rw [List.getElem?_set_ne (Ne.symm h)] at f2
      refine ⟨h, f2, fun z => ?_⟩
      subst z
      exact h (s.inj m n b c' _ f1 e1 f2 e2 a1 al0)
  refine ⟨l, ⟨by simp [s.len], fun m b c' f1 f2 a1 => ?_, fun m k b c1 c2 f1 f2 f3 f4 a1 a2 => ?_, fun b h => ?_, fun b h => ?_⟩, q1⟩
  · obtain ⟨_, f3, nb⟩ := old m b c' f1 f2 a1
    obtain ⟨c1, c2, c3⟩ := s.cell m b c' f1 f3 a1
    exact ⟨c1.mono l rfl, fun z => z.elim c2 nb, c3⟩
  · obtain ⟨_, g1, _⟩ := old m b c1 f1 f3 a1
    obtain ⟨_, g2, _⟩ := old k b c2 f2 f4 a2
    exact s.inj m k b c1 c2 f1 f2 g1 g2 a1 a2
  · rcases h with h | rfl
    · exact s.fz b h
    · exact ⟨_, q⟩
  · obtain ⟨k1, u, e, nt⟩ := s.kp b h
    exact ⟨fun z => z.elim k1 fun w => q3 (w ▸ h), u, e, nt⟩
theorem StOk.freeze (s : StOk K R T H) {n : Nat} {a : Addr} {ds : List D} (e1 : R.cell[n]? = some a) (e2 : T[n]? = some (.lst ds)) :
    Le R H { R with fz := fun b => R.fz b ∨ b = a } H ∧ StOk K { R with fz := fun b => R.fz b ∨ b = a } (T.set n .dead) H ∧ ∃ vs, H a = some (.lst vs) ∧ Reps K R H ds vs := s.freezeC e1 e2 rfl
/-- something new that nobody asks for -/
theorem StOk.other (s : StOk K R T H) {p : Addr} {o : HO} (hp : H p = none) : Le R H R (upd H p o) ∧ StOk K R T (upd H p o) := by
  have ne : ∀ a, (∃ u, H a = some u) → a ≠ p := fun a ⟨u, e⟩ => ne_of_none e hp
  have l : Le R H R (upd H p o) := ⟨⟨[], by simp⟩, fun a h => ⟨h, upd_ne (ne a (s.fz a h))⟩, rfl, fun a h => upd_ne (ne a (s.kpH h))⟩
  refine ⟨l, ⟨s.len, fun n a c e1 e2 al => ?_, s.inj, fun a h => ?_, fun a h => ?_⟩⟩
  · obtain ⟨c1, c2, c3⟩ := s.cell n a c e1 e2 al
    exact ⟨c1.mono l (upd_ne (ne a (c1.tracked al))), c2, c3⟩
  · obtain ⟨u, e⟩ := s.fz a h
    exact ⟨u, by rw [upd_ne (ne a ⟨u, e⟩)]; exact e⟩
  · obtain ⟨k1, u, e, nt⟩ := s.kp a h
    exact ⟨k1, u, by rw [upd_ne (ne a ⟨u, e⟩)]; exact e, nt⟩
/-- tuples that stand there are frozen, too -/
theorem StOk.moreFz (s : StOk K R T H) (F : Addr → Prop) (hF : ∀ a, F a → ∃ xs, H a = some (.tup xs)) :
    Le R H { R with fz := fun b => R.fz b ∨ F b } H ∧ StOk K { R with fz := fun b => R.fz b ∨ F b } T H := by
  have l : Le R H { R with fz := fun b => R.fz b ∨ F b } H := ⟨⟨[], by simp⟩, fun b h => ⟨.inl h, rfl⟩, rfl, fun b h => rfl⟩
  refine ⟨l, ⟨s.len, fun n a c e1 e2 al => ?_, s.inj, fun a h => ?_, fun a h => ?_⟩⟩
  · obtain ⟨c1, c2, c3⟩ := s.cell n a c e1 e2 al
    refine ⟨c1.mono l rfl, fun z => z.elim c2 fun f => ?_, c3⟩
    obtain ⟨xs, e⟩ := hF a f
    cases c with
    | dead => cases al
    | lst ds => obtain ⟨vs, q, _⟩ := c1; rw [e] at q; cases q
    | dic t kvs => cases t <;> (obtain ⟨vs, q, _⟩ := c1; rw [e] at q; cases q)
    | obj c ns ds => obtain ⟨vs, ⟨dx, q, _⟩, _⟩ := c1; rw [e] at q; cases q
  · rcases h with h | h
    · exact s.fz a h
    · obtain ⟨xs, e⟩ := hF a h
      exact ⟨_, e⟩
  · obtain ⟨k1, u, e, nt⟩ := s.kp a h
    refine ⟨fun z => z.elim k1 fun f => ?_, u, e, nt⟩
    obtain ⟨xs, e'⟩ := hF a f
    rw [e'] at e
    cases e
    cases nt
/-- an address is put aside -/
theorem StOk.aside (s : StOk K R T H) {p : Addr} {o : HO} (hp : H p = none) (hnt : noTup o = true := by rfl) :
    LeW R H { R with kp := fun a => R.kp a ∨ a = p } (upd H p o) ∧ StOk K { R with kp := fun a => R.kp a ∨ a = p } T (upd H p o) := by
  have ne : ∀ a, (∃ u, H a = some u) → a ≠ p := fun a ⟨u, e⟩ => ne_of_none e hp
  have l : LeW R H { R with kp := fun a => R.kp a ∨ a = p } (upd H p o) := ⟨⟨[], by simp⟩, fun a h => ⟨h, upd_ne (ne a (s.fz a h))⟩⟩
  refine ⟨l, ⟨s.len, fun n a c e1 e2 al => ?_, s.inj, fun a h => ?_, fun a h => ?_⟩⟩
  · obtain ⟨c1, c2, c3⟩ := s.cell n a c e1 e2 al
    have na := ne a (c1.tracked al)
    exact ⟨c1.monoW l (upd_ne na), c2, fun q => q.elim c3 na⟩
  · obtain ⟨u, e⟩ := s.fz a h
    exact ⟨u, by rw [upd_ne (ne a ⟨u, e⟩)]; exact e⟩
  · rcases h with h | rfl
    · obtain ⟨k1, u, e, nt⟩ := s.kp a h
      exact ⟨k1, u, by rw [upd_ne (ne a ⟨u, e⟩)]; exact e, nt⟩
    · exact ⟨fun q => ne _ (s.fz _ q) rfl, o, upd_same, hnt⟩
/-- what is put aside is written -/
theorem StOk.asideWrite (s : StOk K R T H) {p : Addr} {o : HO} (hp : R.kp p) (hnt : noTup o = true := by rfl) : LeW R H R (upd H p o) ∧ StOk K R T (upd H p o) := by
  obtain ⟨nf, u0, e0, _⟩ := s.kp p hp
  have l : LeW R H R (upd H p o) := ⟨⟨[], by simp⟩, fun a h => ⟨h, upd_ne fun z => nf (z ▸ h)⟩⟩
  refine ⟨l, ⟨s.len, fun n a c e1 e2 al => ?_, s.inj, fun a h => ?_, fun a h => ?_⟩⟩
  · obtain ⟨c1, c2, c3⟩ := s.cell n a c e1 e2 al
    exact ⟨c1.monoW l (upd_ne fun z => c3 (z ▸ hp)), c2, c3⟩
  · obtain ⟨u, e⟩ := s.fz a h
    exact ⟨u, (l.fz a h).2.trans e⟩
  · obtain ⟨k1, u, e, nt⟩ := s.kp a h
    by_cases z : a = p
    · subst z
      exact ⟨k1, o, upd_same, hnt⟩
    · exact ⟨k1, u, by rw [upd_ne z]; exact e, nt⟩
/-- what was put aside comes back: frozen -/
theorem StOk.backFz (s : StOk K R T H) {p : Addr} {kp : Addr → Prop} (hk : ∀ a, R.kp a ↔ kp a ∨ a = p) (hn : ¬ kp p) :
    LeW R H { R with fz := fun a => R.fz a ∨ a = p, kp := kp } H ∧ StOk K { R with fz := fun a => R.fz a ∨ a = p, kp := kp } T H := by
  have l : LeW R H { R with fz := fun a => R.fz a ∨ a = p, kp := kp } H := ⟨⟨[], by simp⟩, fun a h => ⟨.inl h, rfl⟩⟩
  refine ⟨l, ⟨s.len, fun n a c e1 e2 al => ?_, s.inj, fun a h => ?_, fun a h => ?_⟩⟩
  · obtain ⟨c1, c2, c3⟩ := s.cell n a c e1 e2 al
    exact ⟨c1.monoW l rfl, fun q => q.elim c2 fun z => c3 ((hk a).mpr (.inr z)), fun q => c3 ((hk a).mpr (.inl q))⟩
  · rcases h with h | rfl
    · exact s.fz a h
    · exact s.kpH ((hk _).mpr (.inr rfl))
  · obtain ⟨k1, k2⟩ := s.kp a ((hk a).mpr (.inl h))
    exact ⟨fun q => q.elim k1 fun z => hn (z ▸ h), k2⟩
/-- .. or as a cell -/
theorem StOk.backCell (s : StOk K R T H) {p : Addr} {kp : Addr → Prop} {c : Cell} (hk : ∀ a, R.kp a ↔ kp a ∨ a = p) (hn : ¬ kp p) (hc : CellOk K R H p c) :
    LeW R H { R with cell := R.cell ++ [p], kp := kp } H ∧ StOk K { R with cell := R.cell ++ [p], kp := kp } (T ++ [c]) H := by
  have l : LeW R H { R with cell := R.cell ++ [p], kp := kp } H := ⟨⟨[p], rfl⟩, fun a h => ⟨h, rfl⟩⟩
  have pk : R.kp p := (hk p).mpr (.inr rfl)
  have old : ∀ (n : Nat) a c', (R.cell ++ [p])[n]? = some a → (T ++ [c])[n]? = some c' → (n < T.length ∧ R.cell[n]? = some a ∧ T[n]? = some c') ∨ (n = T.length ∧ a = p ∧ c' = c) := fun n a c' e1 e2 => by
    by_cases h : n < T.length
    · rw [List.getElem?_append_left (by rw [s.len]; exact h)] at e1
      rw [List.getElem?_append_left h] at e2
      exact .inl ⟨h, e1, e2⟩
    · have h2 := (List.getElem?_eq_some_iff.mp e2).1
      rw [List.length_append, List.length_singleton] at h2
      have e : n = T.length := by omega
      subst e
      rw [List.getElem?_append_right (Nat.le_refl _), Nat.sub_self] at e2
      rw [← s.len, List.getElem?_append_right (Nat.le_refl _), Nat.sub_self] at e1
      exact .inr ⟨rfl, by simpa using e1.symm, by simpa using e2.symm⟩
  refine ⟨l, ⟨by simp [s.len], fun n a c' e1 e2 al => ?_, fun n m a c1 c2 e1 e2 e3 e4 a1 a2 => ?_, s.fz, fun a h => s.kp a ((hk a).mpr (.inl h))⟩⟩
  · rcases old n a c' e1 e2 with ⟨_, f1, f2⟩ | ⟨_, rfl, rfl⟩
    · obtain ⟨c1, c2, c3⟩ := s.cell n a c' f1 f2 al
      exact ⟨c1.monoW l rfl, c2, fun q => c3 ((hk a).mpr (.inl q))⟩
    · exact ⟨hc.monoW l rfl, (s.kp _ pk).1, hn⟩
  · rcases old n a c1 e1 e3 with ⟨_, f1, f2⟩ | ⟨g1, rfl, rfl⟩ <;> rcases old m a c2 e2 e4 with ⟨_, f3, f4⟩ | ⟨g2, g3, rfl⟩
    · exact s.inj n m a c1 c2 f1 f3 f2 f4 a1 a2
    · subst g3
      exact absurd pk (s.cell n _ c1 f1 f2 a1).2.2
    · exact absurd pk (s.cell m _ c2 f3 f4 a2).2.2
    · omega
end

/-- the slots hold the names' data -/
def EnvOk (K : PySem.W.Frag) (R : Rho) (H : Hp) (σ : L2.St) (env : Env) : Prop := σ.length = env.length ∧ ∀ (i : Nat) d, env[i]? = some (some d) → ∃ v, σ[i]? = some (some v) ∧ Rep K R H d v
theorem EnvOk.monoW {K : PySem.W.Frag} {R R' : Rho} {H H' : Hp} {σ : L2.St} {env : Env} (h : EnvOk K R H σ env) (l : LeW R H R' H') : EnvOk K R' H' σ env :=
  ⟨h.1, fun i d e => let ⟨v, e1, r⟩ := h.2 i d e; ⟨v, e1, Rep.monoW l d v r⟩⟩
theorem EnvOk.mono {K : PySem.W.Frag} {R R' : Rho} {H H' : Hp} {σ : L2.St} {env : Env} (h : EnvOk K R H σ env) (l : Le R H R' H') : EnvOk K R' H' σ env :=
  ⟨h.1, fun i d e => let ⟨v, e1, r⟩ := h.2 i d e; ⟨v, e1, Rep.mono l d v r⟩⟩
theorem EnvOk.set {K : PySem.W.Frag} {R : Rho} {H : Hp} {σ : L2.St} {env : Env} (h : EnvOk K R H σ env) {i : Nat} {d : D} {v : V} (r : Rep K R H d v) : EnvOk K R H (σ.set i (some v)) (env.set i (some d)) := by
  refine ⟨by simp [h.1], fun j d' e => ?_⟩
  by_cases hj : j = i
  · subst hj
    have hl : j < env.length := by
      have := (List.getElem?_eq_some_iff.mp e).1
      simpa using this
    rw [List.getElem?_set_self hl] at e
    cases e
    exact ⟨v, List.getElem?_set_self (by rw [h.1]; exact hl), r⟩
  · rw [List.getElem?_set_ne (Ne.symm hj)] at e
    obtain ⟨v', e1, r'⟩ := h.2 j d' e
    exact ⟨v', by rw [List.getElem?_set_ne (Ne.symm hj)]; exact e1, r'⟩

/-- what is wanted behind a step that gave d and left T' -/
def Post (K : PySem.W.Frag) (R : Rho) (H : Hp) (d : D) (T' : Store) (Q : VK) : Prop := ∀ R' H' v, Le R H R' H' → StOk K R' T' H' → Rep K R' H' d v → Q v H'
/-- an expression by what the interpreter says of it -/
def rdE (K : PySem.W.Frag) (ev : Env → M D) : TE := fun σ H Q => ∃ R T env d T', StOk K R T H ∧ EnvOk K R H σ env ∧ ev env T = .ok d T' ∧ Post K R H d T' Q
def PostB (K : PySem.W.Frag) (R : Rho) (H : Hp) (b : Bool) (T' : Store) (Q : Bool → Hp → Prop) : Prop := ∀ R' H', Le R H R' H' → StOk K R' T' H' → Q b H'
def rdT (K : PySem.W.Frag) (ev : Env → M Bool) : TT := fun σ H Q => ∃ R T env b T', StOk K R T H ∧ EnvOk K R H σ env ∧ ev env T = .ok b T' ∧ PostB K R H b T' Q
def PostA (K : PySem.W.Frag) (R : Rho) (H : Hp) (ds : List D) (T' : Store) (Q : List V → Hp → Prop) : Prop := ∀ R' H' vs, Le R H R' H' → StOk K R' T' H' → Reps K R' H' ds vs → Q vs H'
def rdA (K : PySem.W.Frag) (ev : Env → M (List D)) : TA := fun σ H Q => ∃ R T env ds T', StOk K R T H ∧ EnvOk K R H σ env ∧ ev env T = .ok ds T' ∧ PostA K R H ds T' Q

theorem PE.weak {X : Cx} {e : Expr} {t t' : TE} (h : PE X e t) (w : ∀ σ H Q, t' σ H Q → t σ H Q) : PE X e t' := ⟨fun pins s σ H Q I q => h.run pins s σ H Q I (w σ H Q q)⟩
theorem PT.weak {X : Cx} {e : Expr} {t t' : TT} (h : PT X e t) (w : ∀ σ H Q, t' σ H Q → t σ H Q) : PT X e t' := ⟨fun pins s σ H Q I q => h.run pins s σ H Q I (w σ H Q q)⟩
theorem PW.weak {X : Cx} {e : Expr} {t t' : TT} (h : PW X e t) (w : ∀ σ H Q, t' σ H Q → t σ H Q) : PW X e t' := ⟨fun wh pins s σ H Q I q => h.run wh pins s σ H Q I (w σ H Q q)⟩
theorem PA.weak {X : Cx} {e : List Expr} {t t' : TA} (h : PA X e t) (w : ∀ σ H Q, t' σ H Q → t σ H Q) : PA X e t' := ⟨fun pos pins s σ H Q I q => h.run pos pins s σ H Q I (w σ H Q q)⟩
theorem PS.weak {X : Cx} {e : Stmt} {t t' : TS} (h : PS X e t) (w : ∀ D σ H, t' D σ H → t D σ H) : PS X e t' := ⟨fun pins s σ H D I q => h.run pins s σ H D I (w D σ H q)⟩
theorem PSs.weak {X : Cx} {e : List Stmt} {t t' : TS} (h : PSs X e t) (w : ∀ D σ H, t' D σ H → t D σ H) : PSs X e t' := ⟨fun pins s σ H D I q => h.run pins s σ H D I (w D σ H q)⟩
end Pz

set_option Elab.async false
set_option linter.all false
set_option maxRecDepth 100000
set_option maxHeartbeats 1000000
/-! I3: the operations by values. -/
namespace Pz
open PySem PySem.Spec L2

theorem bind_ok {α β : Type} {x : M α} {f : α → M β} {T T' : Store} {b : β} (h : (x >>= f) T = .ok b T') : ∃ a T1, x T = .ok a T1 ∧ f a T1 = .ok b T' := by
  change M.bind x f T = _ at h
  unfold M.bind at h
  cases e : x T with
  | ok a T1 => rw [e] at h; exact ⟨a, T1, rfl, h⟩
  | bad => rw [e] at h; cases h
theorem pure_ok {α : Type} {a b : α} {T T' : Store} (h : (pure a : M α) T = .ok b T') : a = b ∧ T = T' := by
  change Res.ok a T = .ok b T' at h
  cases h
  exact ⟨rfl, rfl⟩
theorem fail_ok {α : Type} {b : α} {T T' : Store} (h : (fail : M α) T = .ok b T') : False := by cases h
theorem okIf_ok {α : Type} {c : Bool} {a b : α} {T T' : Store} (h : okIf c a T = .ok b T') : c = true ∧ a = b ∧ T = T' := by
  cases c with
  | true => cases h; exact ⟨rfl, rfl, rfl⟩
  | false => cases h
theorem lim_le {n : Nat} (h : lim n = true) : n ≤ sizeLine := Nat.le_of_ble_eq_true h
theorem blt_lt {a b : Nat} (h : Nat.blt a b = true) : a < b := Nat.le_of_ble_eq_true h

abbrev R1 := V → Hp → VK → Prop
def rdOp (K : PySem.W.Frag) (g : D → D → M D) : R2 := fun vx vy H Q => ∃ R T x y d T', StOk K R T H ∧ Rep K R H x vx ∧ Rep K R H y vy ∧ g x y T = .ok d T' ∧ Post K R H d T' Q
def rdUn (K : PySem.W.Frag) (g : D → M D) : R1 := fun vx H Q => ∃ R T x d T', StOk K R T H ∧ Rep K R H x vx ∧ g x T = .ok d T' ∧ Post K R H d T' Q
def rdCl (K : PySem.W.Frag) (g : List D → M D) : List V → Hp → VK → Prop := fun vs H Q => ∃ R T xs d T', StOk K R T H ∧ Reps K R H xs vs ∧ g xs T = .ok d T' ∧ Post K R H d T' Q

section
variable {K : PySem.W.Frag}
theorem Post.now {R : Rho} {T : Store} {H : Hp} {d : D} {v : V} {Q : VK} (st : StOk K R T H) (po : Post K R H d T Q) (r : Rep K R H d v) : Q v H := po R H v (Le.refl R H) st r
/-- a new frozen object -/
theorem Post.newTup {R : Rho} {T : Store} {H : Hp} {ds : List D} {vs : List V} {Q : VK} (st : StOk K R T H) (po : Post K R H (.tup ds) T Q) (r : Reps K R H ds vs) (p : Addr) (hp : H p = none) : Q (.ref p) (upd H p (.tup vs)) := by
  obtain ⟨l, s⟩ := st.newFz (o := .tup vs) hp
  exact po _ _ _ l s ⟨p, vs, rfl, ⟨.inr rfl, upd_same⟩, Reps.mono l ds vs r⟩
theorem Post.newLst {R : Rho} {T : Store} {H : Hp} {ds : List D} {vs : List V} {Q : VK} (st : StOk K R T H) (po : Post K R H (.lst ds) T Q) (r : Reps K R H ds vs) (p : Addr) (hp : H p = none) : Q (.ref p) (upd H p (.lst vs)) := by
  obtain ⟨l, s⟩ := st.newFz (o := .lst vs) hp
  exact po _ _ _ l s ⟨p, vs, rfl, ⟨.inr rfl, upd_same⟩, Reps.mono l ds vs r⟩
theorem LabAt.sqT {R : Rho} {H : Hp} {a : Addr} {vs : List V} (h : LabAt R H a vs) : SqT K H a vs := by
  obtain ⟨_, o, e, _⟩ := h
  exact .inl (.inr ⟨o, e⟩)
theorem TupAt.sqT {R : Rho} {H : Hp} {a : Addr} {vs : List V} (h : TupAt R H a vs) : SqT K H a vs := SqT.of h.2
theorem ExtAt.sq {R : Rho} {H : Hp} {t : Bool} {a : Addr} {vs : List V} (h : ExtAt K R H t a vs) : SqL K H a vs ∨ SqT K H a vs := by
  cases t with
  | false => exact .inl h.2
  | true =>
    right
    rcases h with h | h
    · rcases h with h | ⟨o, h⟩ <;> cases h
    · exact .inr h
/-- a value that is a list: where it lies -/
theorem isList_at {R : Rho} {T : Store} {H : Hp} {x : D} {v : V} {ds : List D} (st : StOk K R T H) (h : isList T x = some ds) (r : Rep K R H x v) : ∃ a vs, v = .ref a ∧ H a = some (.lst vs) ∧ Reps K R H ds vs := by
  cases x with
  | lst xs =>
    cases h
    obtain ⟨a, vs, e, ⟨_, q⟩, q2⟩ := r
    exact ⟨a, vs, e, q, q2⟩
  | ref n =>
    obtain ⟨a, e, c⟩ := r
    simp only [isList] at h
    cases e2 : T[n]? with
    | none => rw [e2] at h; cases h
    | some cl =>
      rw [e2] at h
      cases cl with
      | lst xs =>
        cases h
        obtain ⟨⟨vs, q, q2⟩, _⟩ := st.cell n a _ c e2 rfl
        exact ⟨a, vs, e, q, q2⟩
      | _ => cases h
  | _ => cases h
theorem isSeq_at {R : Rho} {T : Store} {H : Hp} {x : D} {v : V} {ds : List D} (st : StOk K R T H) (h : isSeq T x = some ds) (r : Rep K R H x v) : ∃ a vs, v = .ref a ∧ (SqL K H a vs ∨ SqT K H a vs) ∧ Reps K R H ds vs := by
  cases x with
  | lst xs =>
    cases h
    obtain ⟨a, vs, e, ⟨_, q⟩, q2⟩ := r
    exact ⟨a, vs, e, .inl (SqL.of q), q2⟩
  | tup xs =>
    cases h
    obtain ⟨a, vs, e, q, q2⟩ := r
    exact ⟨a, vs, e, .inr q.sqT, q2⟩
  | ext t xs =>
    cases h
    obtain ⟨a, vs, e, q, q2⟩ := r
    exact ⟨a, vs, e, q.sq, q2⟩
  | lab xs =>
    cases h
    obtain ⟨a, vs, e, q, q2⟩ := r
    exact ⟨a, vs, e, .inr q.sqT, q2⟩
  | ref n =>
    have h2 : isList T (.ref n) = some ds := h
    obtain ⟨a, vs, e, q, q2⟩ := isList_at st h2 r
    exact ⟨a, vs, e, .inl (SqL.of q), q2⟩
  | _ => cases h
theorem Reps.intsOf {R : Rho} {H : Hp} : ∀ {ds : List D} {is : List Int} {vs : List V}, intsD ds = some is → Reps K R H ds vs → vs = is.map V.int
  | [], is, vs, h, r => by
    cases h
    exact r
  | d :: ds, is, vs, h, r => by
    obtain ⟨v, r', rfl, h1, h2⟩ := r
    cases d with
    | int i =>
      unfold intsD at h
      cases e : intsD ds with
      | none => rw [e] at h; cases h
      | some js =>
        rw [e] at h
        cases h
        rw [Reps.intsOf e h2, (show v = .int i from h1)]
        rfl
    | _ => cases h
theorem Reps.boolsOf {R : Rho} {H : Hp} : ∀ {ds : List D} {is : List Bool} {vs : List V}, boolsD ds = some is → Reps K R H ds vs → vs = is.map V.bl
  | [], is, vs, h, r => by
    cases h
    exact r
  | d :: ds, is, vs, h, r => by
    obtain ⟨v, r', rfl, h1, h2⟩ := r
    cases d with
    | bl i =>
      unfold boolsD at h
      cases e : boolsD ds with
      | none => rw [e] at h; cases h
      | some js =>
        rw [e] at h
        cases h
        rw [Reps.boolsOf e h2, (show v = .bl i from h1)]
        rfl
    | _ => cases h
theorem Reps.strsOf {R : Rho} {H : Hp} : ∀ {ds : List D} {is : List Str} {vs : List V}, strsD ds = some is → Reps K R H ds vs → vs = is.map V.str
  | [], is, vs, h, r => by
    cases h
    exact r
  | d :: ds, is, vs, h, r => by
    obtain ⟨v, r', rfl, h1, h2⟩ := r
    cases d with
    | str i =>
      unfold strsD at h
      cases e : strsD ds with
      | none => rw [e] at h; cases h
      | some js =>
        rw [e] at h
        cases h
        rw [Reps.strsOf e h2, (show v = .str i from h1)]
        rfl
    | _ => cases h
theorem Reps.ofInts {R : Rho} {H : Hp} : ∀ (is : List Int), Reps K R H (is.map D.int) (is.map V.int)
  | [] => rfl
  | i :: is => ⟨_, _, rfl, rfl, Reps.ofInts is⟩
theorem Reps.ofStrs {R : Rho} {H : Hp} : ∀ (is : List Str), Reps K R H (is.map D.str) (is.map V.str)
  | [] => rfl
  | i :: is => ⟨_, _, rfl, rfl, Reps.ofStrs is⟩
theorem Reps.flat {R : Rho} {H : Hp} {ds : List D} {vs : List V} (r : Reps K R H ds vs) : ∀ n : Nat, Reps K R H (List.replicate n ds).flatten (List.replicate n vs).flatten
  | 0 => rfl
  | n + 1 => by
    rw [List.replicate_succ, List.replicate_succ, List.flatten_cons, List.flatten_cons]
    exact r.append (r.flat n)
end

section
variable {X : Cx}
theorem mulOk_ok {i j : Int} (h : mulOk i j = true) : CMul i j ∨ CMulW i j := by
  unfold mulOk at h
  simp only [Bool.or_eq_true] at h
  rcases h with (h | h) | h
  · have := blt_lt h
    exact .inl (.inl ⟨by omega, by omega⟩)
  · have := blt_lt h
    exact .inl (.inr ⟨by omega, by omega⟩)
  · exact .inr (blt_lt h)
/-- a list and a list: one way for all of +, * -/
theorem op_add_ok : OpR X (binaryOp .Add) (rdOp X.K (opD .add)) := by
  intro pins s σ H vx vy v u Q I rv ru h
  obtain ⟨R, T, x, y, d, T', st, rx, ry, e, po⟩ := h
  have lists : ∀ {a b : List D}, isList T x = some a → isList T y = some b → okIf (lim (a.length + b.length)) (.lst (a ++ b)) T = .ok d T' → wpAny (model X.prog X.w) X.A (binaryOp .Add v u) (EP X pins σ Q) X.xe s := by
    intro a b ha hb e
    obtain ⟨hl, rfl, rfl⟩ := okIf_ok e
    obtain ⟨l, vs, rfl, h1, r1⟩ := isList_at st ha rx
    obtain ⟨m, us, rfl, h2, r2⟩ := isList_at st hb ry
    refine op_cat pins s σ H _ _ v u Q I rv ru ⟨l, m, vs, us, rfl, rfl, h1, h2, ?_, fun p hp => Post.newLst st po (r1.append r2) p hp⟩
    rw [r1.length, r2.length]
    exact lim_le hl
  cases x with
  | int i =>
    cases y with
    | int j => cases e; exact op_add pins s σ H _ _ v u Q I rv ru ⟨i, j, rx, ry, Post.now st po rfl⟩
    | _ => cases e
  | str a =>
    cases y with
    | str b =>
      obtain ⟨hl, rfl, rfl⟩ := okIf_ok e
      exact op_add_str pins s σ H _ _ v u Q I rv ru ⟨a, b, rx, ry, lim_le hl, Post.now st po rfl⟩
    | _ => cases e
  | tup a =>
    cases y with
    | tup b =>
      obtain ⟨hl, rfl, rfl⟩ := okIf_ok e
      obtain ⟨l, vs, rfl, t1, r1⟩ := id rx
      obtain ⟨m, us, rfl, t2, r2⟩ := id ry
      refine op_catA pins s σ H _ _ v u Q I rv ru ⟨l, m, vs, us, rfl, rfl, t1.sqT, t2.sqT, ?_, fun q => ?_, fun q1 q2 => ?_, fun q1 q2 p hp => Post.newTup st po (r1.append r2) p hp⟩
      · rw [r1.length, r2.length]
        exact lim_le hl
      · subst q
        cases a with
        | nil => exact Post.now st po ry
        | cons z zs => obtain ⟨_, _, q, _⟩ := r1; cases q
      · subst q2
        cases b with
        | nil =>
          rw [List.append_nil] at po
          exact Post.now st po rx
        | cons z zs => obtain ⟨_, _, q, _⟩ := r2; cases q
    | _ => cases e
  | lst a =>
    cases y with
    | lst b => exact lists rfl rfl e
    | ref n =>
      cases hb : isList T (.ref n) with
      | none => simp only [opD, isList] at e hb; rw [hb] at e; cases e
      | some b => simp only [opD] at e; rw [hb] at e; exact lists rfl hb e
    | _ => cases e
  | ref n =>
    cases ha : isList T (.ref n) with
    | none => cases y <;> (simp only [opD] at e; rw [ha] at e; cases e)
    | some a =>
      cases hb : isList T y with
      | none => cases y <;> (simp only [opD] at e; rw [ha, hb] at e; cases e)
      | some b => cases y <;> (first | cases hb; done | (simp only [opD] at e; rw [ha, hb] at e; exact lists ha hb e))
  | _ => cases y <;> cases e
theorem op_sub_ok : OpR X (binaryOp .Sub) (rdOp X.K (opD .sub)) := by
  intro pins s σ H vx vy v u Q I rv ru h
  obtain ⟨R, T, x, y, d, T', st, rx, ry, e, po⟩ := h
  cases x <;> cases y <;> first | (cases e; done) | skip
  cases e
  exact op_sub pins s σ H _ _ v u Q I rv ru ⟨_, _, rx, ry, Post.now st po rfl⟩
theorem tuple_mul1 (l : Addr) (items : Array Value) (n : Nat) (dd : Option Addr) (sl : Array (Option Value)) (u : Tok) (c1 : (items.isEmpty || (1 : Int) == 1) = true) :
    Meets (Builtin.«tuple.__mul__» ⟨[.ref l, .int 1 u], []⟩) (fun _ R s => s.heap.get? l = some { cls := .type "tuple", dict := dd, data := .seq items n, slots := sl } ∧ R (.ok (.ret (Value.ref l))) s) :=
  .of_wp fun prog w A R s h => by
    obtain ⟨hp, g, d, tk, os⟩ := s
    obtain ⟨hl, h⟩ := h
    have f1 := AutoSeq1.idx_int
    wp_walk using wpAny_loadPart' hl
    repeat (first
      | (refine wpAny_ite_false (by decide) ?_; wp_walk using wpAny_loadPart' hl)
      | (refine wpAny_ite_true (decide_eq_true c1) ?_; wp_walk using wpAny_loadPart' hl))
    exact ⟨_, rfl, h⟩
def rRep1 (K : PySem.W.Frag) : R2 := fun x y H Q => ∃ l xs, x = .ref l ∧ y = .int 1 ∧ SqT K H l xs ∧ Q (.ref l) H
theorem op_rep1 : OpR X (binaryOp .Mult) (rRep1 X.K) := by
  intro pins s σ H x y v u Q I rx ry h
  obtain ⟨l, xs, rfl, rfl, hT, q⟩ := h
  cases rx
  obtain ⟨t, rfl⟩ := ry
  obtain ⟨its, r, ⟨⟨cls, dd, data, sl⟩, ho, hc, n, hd⟩, hs⟩ := I.tuple hT
  simp only at hc hd
  subst hc hd
  refine wpAny_binaryOp_repeat_ref (T := "tuple") (U := "int") (by decide) ⟨_, ho, rfl⟩ (fun s' => typeIs_int s' 1 t) noFill_tuple_mul F.fills_int_mul F.slot_int_rmul repeat_tuple F.slot_int_index.lookup
    (call_meets F.slot_int_rmul (typeIs_int s 1 t) F.entry_int_rmul (F.args_int_rmul_2 _ _) (int_rmul_tuple 1 t l its.toArray n dd sl)
      ⟨ho, rfl, ⟨_, ho, rfl⟩, call_meets F.slot_tuple_mul ⟨_, ho, rfl⟩ F.entry_tuple_mul (F.args_tuple_mul_2 _ _) (tuple_mul1 l its.toArray n dd sl t (by simp)) ⟨ho, ?_⟩⟩)
  exact ⟨.ref l, H, I, rfl, q⟩
theorem op_mul_ok : OpR X (binaryOp .Mult) (rdOp X.K (opD .mul)) := by
  intro pins s σ H vx vy v u Q I rv ru h
  obtain ⟨R, T, x, y, d, T', st, rx, ry, e, po⟩ := h
  cases y with
  | int k =>
    have lists : ∀ {a : List D}, isList T x = some a → okIf (decide (-(2 ^ 63) ≤ k) && decide (k < 2 ^ 63) && lim (a.length * k.toNat)) (.lst (List.replicate k.toNat a).flatten) T = .ok d T' → wpAny (model X.prog X.w) X.A (binaryOp .Mult v u) (EP X pins σ Q) X.xe s := by
      intro a ha e
      obtain ⟨hl, rfl, rfl⟩ := okIf_ok e
      simp only [Bool.and_eq_true, decide_eq_true_eq] at hl
      obtain ⟨l, vs, rfl, h1, r1⟩ := isList_at st ha rx
      refine op_rep pins s σ H _ _ v u Q I rv ru ⟨l, k, vs, rfl, ry, h1, hl.1.1, hl.1.2, ?_, fun p hp => Post.newLst st po (r1.flat _) p hp⟩
      rw [r1.length]
      exact lim_le hl.2
    cases x with
    | int i =>
      obtain ⟨hl, rfl, rfl⟩ := okIf_ok e
      rcases mulOk_ok hl with hm | hm
      · exact op_mul pins s σ H _ _ v u Q I rv ru ⟨_, _, rx, ry, hm, Post.now st po rfl⟩
      · exact op_mulW pins s σ H _ _ v u Q I rv ru ⟨_, _, rx, ry, hm, Post.now st po rfl⟩
    | tup a =>
      obtain ⟨hl, rfl, rfl⟩ := okIf_ok e
      simp only [Bool.and_eq_true, decide_eq_true_eq] at hl
      obtain ⟨⟨⟨h1, h2⟩, h3⟩, h4⟩ := hl
      obtain ⟨l, vs, rfl, t1, r1⟩ := id rx
      by_cases hk1 : k = 1
      · subst hk1
        refine op_rep1 pins s σ H _ _ v u Q I rv ru ⟨l, vs, rfl, ry, t1.sqT, Post.now st po ?_⟩
        have ef : (List.replicate (1 : Int).toNat a).flatten = a := by simp [List.replicate]
        rw [ef]
        exact rx
      replace h2 : 2 ≤ k := by omega
      refine op_repT pins s σ H _ _ v u Q I rv ru ⟨l, k, vs, rfl, ry, t1.sqT, ?_, h2, h3, ?_, fun p hp => Post.newTup st po (r1.flat _) p hp⟩
      · intro q
        subst q
        have := r1.length
        cases a with
        | nil => cases h1
        | cons z zs => cases this
      · rw [r1.length]
        exact Nat.le_of_ble_eq_true h4
    | lst a => exact lists rfl e
    | ref n =>
      cases ha : isList T (.ref n) with
      | none => simp only [opD] at e; rw [ha] at e; cases e
      | some a => simp only [opD] at e; rw [ha] at e; exact lists ha e
    | _ => cases e
  | _ => cases x <;> cases e
theorem op_fdiv_ok : OpR X (binaryOp .FloorDiv) (rdOp X.K (opD .fdiv)) := by
  intro pins s σ H vx vy v u Q I rv ru h
  obtain ⟨R, T, x, y, d, T', st, rx, ry, e, po⟩ := h
  cases x <;> cases y <;> first | (cases e; done) | skip
  obtain ⟨hl, rfl, rfl⟩ := okIf_ok e
  simp only [Bool.and_eq_true, decide_eq_true_eq] at hl
  exact op_fdivW pins s σ H _ _ v u Q I rv ru ⟨_, _, rx, ry, ⟨hl.1, blt_lt hl.2⟩, Post.now st po rfl⟩
theorem op_mod_ok : OpR X (binaryOp .Mod) (rdOp X.K (opD .mod)) := by
  intro pins s σ H vx vy v u Q I rv ru h
  obtain ⟨R, T, x, y, d, T', st, rx, ry, e, po⟩ := h
  cases x <;> cases y <;> first | (cases e; done) | skip
  obtain ⟨hl, rfl, rfl⟩ := okIf_ok e
  exact op_mod pins s σ H _ _ v u Q I rv ru ⟨_, _, rx, ry, of_decide_eq_true hl, Post.now st po rfl⟩
theorem op_pow_ok : OpR X (binaryOp .Pow) (rdOp X.K (opD .pow)) := by
  intro pins s σ H vx vy v u Q I rv ru h
  obtain ⟨R, T, x, y, d, T', st, rx, ry, e, po⟩ := h
  cases x <;> cases y <;> first | (cases e; done) | skip
  obtain ⟨hl, rfl, rfl⟩ := okIf_ok e
  simp only [Bool.and_eq_true, decide_eq_true_eq] at hl
  exact op_pow pins s σ H _ _ v u Q I rv ru ⟨_, _, rx, ry, ⟨hl.1.1, hl.1.2, blt_lt hl.2⟩, Post.now st po rfl⟩
def bopP : BOp → Operator
  | .add => .Add
  | .sub => .Sub
  | .mul => .Mult
  | .fdiv => .FloorDiv
  | .mod => .Mod
  | .pow => .Pow
theorem op_ok (op : BOp) : OpR X (binaryOp (bopP op)) (rdOp X.K (opD op)) := by
  cases op
  · exact op_add_ok
  · exact op_sub_ok
  · exact op_mul_ok
  · exact op_fdiv_ok
  · exact op_mod_ok
  · exact op_pow_ok
theorem un_neg_ok : UnR X (unaryOp .USub) (rdUn X.K negD) := by
  intro pins s σ H vx v Q I rv h
  obtain ⟨R, T, x, d, T', st, rx, e, po⟩ := h
  cases x <;> first | (cases e; done) | skip
  obtain ⟨rfl, rfl⟩ := pure_ok e
  exact un_neg pins s σ H _ v Q I rv ⟨_, rx, Post.now st po rfl⟩
end
end Pz

set_option Elab.async false
set_option linter.all false
set_option maxRecDepth 100000
set_option maxHeartbeats 1000000
/-! I3b: == and != of data. -/
namespace Pz
open PySem PySem.Spec L2 PySem.SeqAt

def eAt (f : D → D → Option Bool) (xs ys : List D) (j : Nat) : Bool := (f (xs.getD j .non) (ys.getD j .non)).getD false
theorem eqAll_eq (f : D → D → Option Bool) : ∀ (xs ys : List D) (b : Bool), eqAll f xs ys = some b → b = ((List.range (min xs.length ys.length)).all (eAt f xs ys) && xs.length == ys.length)
  | [], [], b, h => by cases h; rfl
  | [], _ :: _, b, h => by cases h; rfl
  | _ :: _, [], b, h => by cases h; simp
  | x :: xs, y :: ys, b, h => by
    unfold eqAll at h
    cases e1 : f x y with
    | none => rw [e1] at h; cases h
    | some c =>
      cases e2 : eqAll f xs ys with
      | none => rw [e1, e2] at h; cases h
      | some c' =>
        rw [e1, e2] at h
        cases h
        have ih := eqAll_eq f xs ys c' e2
        have q1 : min (x :: xs).length (y :: ys).length = min xs.length ys.length + 1 := by simp only [List.length_cons]; omega
        have q2 : ((x :: xs).length == (y :: ys).length) = (xs.length == ys.length) := by simp
        have q3 : (List.range (min xs.length ys.length + 1)).all (eAt f (x :: xs) (y :: ys)) = (c && (List.range (min xs.length ys.length)).all (eAt f xs ys)) := by
          rw [List.range_succ_eq_map, List.all_cons, List.all_map]
          have : eAt f (x :: xs) (y :: ys) 0 = c := by simp [eAt, e1]
          rw [this]
          rfl
        rw [q1, q2, q3, ih, Bool.and_assoc]
theorem eqAll_at (f : D → D → Option Bool) : ∀ (xs ys : List D) (b : Bool), eqAll f xs ys = some b → ∀ j, j < xs.length → j < ys.length → f (xs.getD j .non) (ys.getD j .non) = some (eAt f xs ys j)
  | [], _, _, _, j, h1, _ => absurd h1 (Nat.not_lt_zero _)
  | _ :: _, [], _, _, j, _, h2 => absurd h2 (Nat.not_lt_zero _)
  | x :: xs, y :: ys, b, h, j, h1, h2 => by
    unfold eqAll at h
    cases e1 : f x y with
    | none => rw [e1] at h; cases h
    | some c =>
      cases e2 : eqAll f xs ys with
      | none => rw [e1, e2] at h; cases h
      | some c' =>
        cases j with
        | zero => simp [eAt, e1]
        | succ j =>
          have := eqAll_at f xs ys c' e2 j (by simpa using h1) (by simpa using h2)
          simpa [eAt] using this
theorem Reps.getD {K : PySem.W.Frag} {R : Rho} {H : Hp} {ds : List D} {vs : List V} {its : List Value} (r : Reps K R H ds vs) (rv : Vals vs its) {j : Nat} (h : j < its.length) : ∃ v, Rep K R H (ds.getD j .non) v ∧ RelV v its[j] := by
  have hl : j < ds.length := by rw [← r.length, rv.length]; exact h
  obtain ⟨v, e, q⟩ := r.get (i := j) (d := ds[j]) (List.getElem?_eq_getElem hl)
  obtain ⟨u, e2, q2⟩ := rv.get e
  have : u = its[j] := by
    rw [List.getElem?_eq_getElem h] at e2
    exact (Option.some.inj e2).symm
  subst this
  refine ⟨v, ?_, q2⟩
  rw [List.getD_eq_getElem?_getD, List.getElem?_eq_getElem hl]
  exact q

section
variable {X : Cx} {pins : List (Addr × Obj)} {σ : L2.St} {H : Hp} {s : Shared} {R : Rho} {T : Store}
theorem eqX_sc {y : D} {b : Bool} (h : eqX y = some b) : b = false ∧ (y = .non ∨ (∃ c, y = .bl c) ∨ (∃ i, y = .int i) ∨ (∃ z, y = .str z) ∨ ∃ ds, y = .tup ds) := by
  cases y <;> cases h <;> simp

/-- the same value is equal to itself -/
theorem eq_same (I : Inv X pins σ H s) (st : StOk X.K R T H) : ∀ (n : Nat) (x y : D) (v : V) (b : Bool), eqD n T x y = some b → Rep X.K R H x v → Rep X.K R H y v → b = true := by
  intro n
  induction n with
  | zero => intro x y v b h; cases h
  | succ n ih =>
    intro x y v b h rx ry
    have all : ∀ (xs ys : List D) (vs : List V) (b : Bool), eqAll (eqD n T) xs ys = some b → Reps X.K R H xs vs → Reps X.K R H ys vs → b = true := by
      intro xs
      induction xs with
      | nil =>
        intro ys vs b h r1 r2
        cases r1
        cases ys with
        | nil => cases h; rfl
        | cons y ys => obtain ⟨_, _, q, _⟩ := r2; cases q
      | cons x xs ihx =>
        intro ys vs b h r1 r2
        obtain ⟨v, r, rfl, h1, h2⟩ := r1
        cases ys with
        | nil => cases r2
        | cons y ys =>
          obtain ⟨v', r', q, h1', h2'⟩ := r2
          cases q
          unfold eqAll at h
          cases e1 : eqD n T x y with
          | none => rw [e1] at h; cases h
          | some c =>
            cases e2 : eqAll (eqD n T) xs ys with
            | none => rw [e1, e2] at h; cases h
            | some c' =>
              rw [e1, e2] at h
              cases h
              rw [ih x y v c e1 h1 h1', ihx ys r c' e2 h2 h2']
              rfl
    unfold eqD at h
    cases e1 : isList T x with
    | some xs =>
      obtain ⟨a, vs, rfl, q1, r1⟩ := isList_at st e1 rx
      cases e2 : isList T y with
      | some ys =>
        rw [e1, e2] at h
        obtain ⟨a', vs', q, q2, r2⟩ := isList_at st e2 ry
        cases q
        rw [q1] at q2
        cases q2
        exact all xs ys vs b h r1 r2
      | none =>
        rw [e1, e2] at h
        obtain ⟨_, z⟩ := eqX_sc h
        rcases z with rfl | ⟨_, rfl⟩ | ⟨_, rfl⟩ | ⟨_, rfl⟩ | ⟨ds, rfl⟩ <;> try (cases ry; done)
        obtain ⟨a', vs', q, t, _⟩ := ry
        cases q
        exfalso
        obtain ⟨its, _, ⟨o, n', ho, hc, _⟩, _⟩ := I.list (SqL.of (K := X.K) q1)
        obtain ⟨its', _, ⟨o', ho', hc', _⟩, _⟩ := I.tuple t.sqT
        rw [ho] at ho'
        cases ho'
        rw [hc] at hc'
        exact absurd hc' (by simp)
    | none =>
      cases e2 : isList T y with
      | some ys =>
        rw [e1, e2] at h
        obtain ⟨a, vs, rfl, q1, r1⟩ := isList_at st e2 ry
        obtain ⟨_, z⟩ := eqX_sc h
        rcases z with rfl | ⟨_, rfl⟩ | ⟨_, rfl⟩ | ⟨_, rfl⟩ | ⟨ds, rfl⟩ <;> try (cases rx; done)
        obtain ⟨a', vs', q, t, _⟩ := rx
        cases q
        exfalso
        obtain ⟨its, _, ⟨o, n', ho, hc, _⟩, _⟩ := I.list (SqL.of (K := X.K) q1)
        obtain ⟨its', _, ⟨o', ho', hc', _⟩, _⟩ := I.tuple t.sqT
        rw [ho] at ho'
        cases ho'
        rw [hc] at hc'
        exact absurd hc' (by simp)
      | none =>
        rw [e1, e2] at h
        cases x <;> cases y <;> first
          | (cases h; done)
          | (cases rx; cases ry; done)
          | (cases rx; cases ry; cases h; simp; done)
          | (cases rx; obtain ⟨_, _, q, _⟩ := ry; cases q; done)
          | (cases ry; obtain ⟨_, _, q, _⟩ := rx; cases q; done)
          | skip
        obtain ⟨a, vs, rfl, t1, r1⟩ := rx
        obtain ⟨a', vs', q, t2, r2⟩ := ry
        cases q
        have := I.tuple_inj t1.sqT t2.sqT
        subst this
        exact all _ _ vs b h r1 r2

theorem eq_at (I : Inv X pins σ H s) (st : StOk X.K R T H) : ∀ (n : Nat) (A : Around) (x y : D) (vx vy : V) (u w : Value) (b : Bool), eqD n T x y = some b → Rep X.K R H x vx → Rep X.K R H y vy → RelV vx u → RelV vy w → A.units + n < cLine →
    RcAt A s u w b ∧ EqAt A s u w b ∧ RcNeAt A s u w (!b) := by
  intro n
  induction n with
  | zero => intro A x y vx vy u w b h; cases h
  | succ n ih =>
    intro A x y vx vy u w b h rx ry ru rw_ hu
    have hu0 : A.units < cLine := by omega
    have hs : ∀ v, Rep X.K R H x v → Rep X.K R H y v → b = true := fun v h1 h2 => eq_same I st (n + 1) x y v b h h1 h2
    have els : ∀ (xs ys : List D) (vs us : List V) (is js : List Value) (b : Bool), eqAll (eqD n T) xs ys = some b → Reps X.K R H xs vs → Reps X.K R H ys us → Vals vs is → Vals us js →
        (∀ j (h1 : j < is.toArray.size) (h2 : j < js.toArray.size), EqAt A.in1 s is.toArray[j] js.toArray[j] (eAt (eqD n T) xs ys j)) ∧ is.length = xs.length ∧ js.length = ys.length := by
      intro xs ys vs us is js b h r1 r2 v1 v2
      have l1 : is.length = xs.length := by rw [← v1.length, r1.length]
      have l2 : js.length = ys.length := by rw [← v2.length, r2.length]
      refine ⟨fun j h1 h2 => ?_, l1, l2⟩
      have h1' : j < is.length := by simpa using h1
      have h2' : j < js.length := by simpa using h2
      obtain ⟨v, q1, q2⟩ := r1.getD v1 h1'
      obtain ⟨v', q3, q4⟩ := r2.getD v2 h2'
      have e := eqAll_at _ xs ys b h j (by omega) (by omega)
      have := (ih A.in1 _ _ v v' _ _ _ e q1 q3 q2 q4 (by show A.units + 1 + n < cLine; omega)).2.1
      simpa using this
    unfold eqD at h
    cases e1 : isList T x with
    | some xs =>
      obtain ⟨l, vs, rfl, q1, r1⟩ := isList_at st e1 rx
      cases ru
      obtain ⟨is, v1, pl1, _⟩ := I.list (SqL.of (K := X.K) q1)
      have hl := pl1.isList
      cases e2 : isList T y with
      | some ys =>
        rw [e1, e2] at h
        obtain ⟨m, us, rfl, q2, r2⟩ := isList_at st e2 ry
        cases rw_
        obtain ⟨js, v2, pl2, _⟩ := I.list (SqL.of (K := X.K) q2)
        have hm := pl2.isList
        obtain ⟨he, l1, l2⟩ := els xs ys vs us is js b h r1 r2 v1 v2
        have eb := eqAll_eq _ xs ys b h
        by_cases hsz : is.toArray.size = js.toArray.size
        · have hlen : xs.length = ys.length := by simp at hsz; omega
          have eb' : b = (List.range is.toArray.size).all (eAt (eqD n T) xs ys) := by
            rw [eb, hlen, Nat.min_self]
            simp [l1, hlen]
          refine ⟨by rw [eb']; exact RcAt.lists hl hm hsz hu0 he, ?_, by rw [eb']; exact RcNeAt.lists hl hm hsz hu0 he⟩
          by_cases hlm : l = m
          · subst hlm
            rw [hs _ rx ry]
            exact EqAt.same _
          · rw [eb']
            exact EqAt.of_refs hlm (RcAt.lists hl hm hsz hu0 he)
        · have hlen : xs.length ≠ ys.length := by simp at hsz; omega
          have eb' : b = false := by
            rw [eb]
            simp [hlen]
          subst eb'
          refine ⟨RcAt.lists_lengths hl hm (by simpa using hsz) hu0, ?_, RcNeAt.lists_lengths hl hm (by simpa using hsz) hu0⟩
          by_cases hlm : l = m
          · subst hlm
            exact absurd (hs _ rx ry) (by decide)
          · exact EqAt.of_refs hlm (RcAt.lists_lengths hl hm (by simpa using hsz) hu0)
      | none =>
        rw [e1, e2] at h
        obtain ⟨rfl, z⟩ := eqX_sc h
        rcases z with rfl | ⟨c, rfl⟩ | ⟨c, rfl⟩ | ⟨c, rfl⟩ | ⟨ds, rfl⟩
        · cases ry; cases rw_
          exact ⟨RcAt.list_none hl hu0, EqAt.list_none hl hu0, RcNeAt.list_none hl hu0⟩
        · cases ry; cases rw_
          exact ⟨RcAt.list_bool c hl hu0, EqAt.list_bool c hl hu0, RcNeAt.list_bool c hl hu0⟩
        · cases ry; obtain ⟨t, rfl⟩ := rw_
          exact ⟨RcAt.list_int c t hl hu0, EqAt.list_int c t hl hu0, RcNeAt.list_int c t hl hu0⟩
        · cases ry; obtain ⟨t, rfl⟩ := rw_
          exact ⟨RcAt.list_str c t hl hu0, EqAt.list_str c t hl hu0, RcNeAt.list_str c t hl hu0⟩
        · obtain ⟨m, us, rfl, t2, r2⟩ := ry
          cases rw_
          obtain ⟨js, v2, ⟨o, ho, hc, k, hd⟩, _⟩ := I.tuple t2.sqT
          have hm : s.heap.IsTuple m js.toArray := ⟨o, ho, hc, k, hd⟩
          exact ⟨RcAt.list_tuple hl hm hu0, EqAt.list_tuple hl hm hu0, RcNeAt.list_tuple hl hm hu0⟩
    | none =>
      cases e2 : isList T y with
      | some ys =>
        rw [e1, e2] at h
        obtain ⟨m, us, rfl, q2, r2⟩ := isList_at st e2 ry
        cases rw_
        obtain ⟨js, v2, pl2, _⟩ := I.list (SqL.of (K := X.K) q2)
        have hm := pl2.isList
        obtain ⟨rfl, z⟩ := eqX_sc h
        rcases z with rfl | ⟨c, rfl⟩ | ⟨c, rfl⟩ | ⟨c, rfl⟩ | ⟨ds, rfl⟩
        · cases rx; cases ru
          exact ⟨RcAt.none_list hm hu0, EqAt.none_list hm hu0, RcNeAt.none_list hm hu0⟩
        · cases rx; cases ru
          exact ⟨RcAt.bool_list c hm hu0, EqAt.bool_list c hm hu0, RcNeAt.bool_list c hm hu0⟩
        · cases rx; obtain ⟨t, rfl⟩ := ru
          exact ⟨RcAt.int_list c t hm hu0, EqAt.int_list c t hm hu0, RcNeAt.int_list c t hm hu0⟩
        · cases rx; obtain ⟨t, rfl⟩ := ru
          exact ⟨RcAt.str_list c t hm hu0, EqAt.str_list c t hm hu0, RcNeAt.str_list c t hm hu0⟩
        · obtain ⟨l, vs, rfl, t1, r1⟩ := rx
          cases ru
          obtain ⟨is, v1, ⟨o, ho, hc, k, hd⟩, _⟩ := I.tuple t1.sqT
          have hl : s.heap.IsTuple l is.toArray := ⟨o, ho, hc, k, hd⟩
          exact ⟨RcAt.tuple_list hl hm hu0, EqAt.tuple_list hl hm hu0, RcNeAt.tuple_list hl hm hu0⟩
      | none =>
        rw [e1, e2] at h
        cases x with
        | non =>
          cases rx; cases ru
          cases y <;> first | (cases h; done) | skip
          · cases h; cases ry; cases rw_; exact ⟨RcAt.none_none, EqAt.same _, RcNeAt.none_none⟩
          · cases h; cases ry; cases rw_; exact ⟨RcAt.none_bool _, EqAt.none_bool _, RcNeAt.none_bool _⟩
          · cases h; cases ry; obtain ⟨t, rfl⟩ := rw_; exact ⟨RcAt.none_int _ t, EqAt.none_int _ t, RcNeAt.none_int _ t⟩
          · cases h; cases ry; obtain ⟨t, rfl⟩ := rw_; exact ⟨RcAt.none_str _ t, EqAt.none_str _ t, RcNeAt.none_str _ t⟩
          · cases h
            obtain ⟨m, us, rfl, t2, r2⟩ := ry
            cases rw_
            obtain ⟨js, v2, ⟨o, ho, hc, k, hd⟩, _⟩ := I.tuple t2.sqT
            have hm : s.heap.IsTuple m js.toArray := ⟨o, ho, hc, k, hd⟩
            exact ⟨RcAt.none_tuple hm hu0, EqAt.none_tuple hm hu0, RcNeAt.none_tuple hm hu0⟩
        | bl c =>
          cases rx; cases ru
          cases y <;> first | (cases h; done) | skip
          · cases h; cases ry; cases rw_; exact ⟨RcAt.bool_none _, EqAt.bool_none _, RcNeAt.bool_none _⟩
          · cases h; cases ry; cases rw_; exact ⟨RcAt.bool_bool _ _, EqAt.bool_bool _ _, RcNeAt.bool_bool _ _⟩
          · cases h; cases ry; obtain ⟨t, rfl⟩ := rw_; exact ⟨RcAt.bool_int _ _ t, EqAt.bool_int _ _ t, RcNeAt.bool_int _ _ t⟩
          · cases h; cases ry; obtain ⟨t, rfl⟩ := rw_; exact ⟨RcAt.bool_str _ _ t, EqAt.bool_str _ _ t, RcNeAt.bool_str _ _ t⟩
          · cases h
            obtain ⟨m, us, rfl, t2, r2⟩ := ry
            cases rw_
            obtain ⟨js, v2, ⟨o, ho, hc, k, hd⟩, _⟩ := I.tuple t2.sqT
            have hm : s.heap.IsTuple m js.toArray := ⟨o, ho, hc, k, hd⟩
            exact ⟨RcAt.bool_tuple _ hm hu0, EqAt.bool_tuple _ hm hu0, RcNeAt.bool_tuple _ hm hu0⟩
        | int c =>
          cases rx; obtain ⟨t, rfl⟩ := ru
          cases y <;> first | (cases h; done) | skip
          · cases h; cases ry; cases rw_; exact ⟨RcAt.int_none _ t, EqAt.int_none _ t, RcNeAt.int_none _ t⟩
          · cases h; cases ry; cases rw_; exact ⟨RcAt.int_bool _ t _, EqAt.int_bool _ t _, RcNeAt.int_bool _ t _⟩
          · cases h; cases ry; obtain ⟨t', rfl⟩ := rw_; exact ⟨RcAt.int_int _ t _ t', EqAt.int_int _ t _ t', RcNeAt.int_int _ t _ t'⟩
          · cases h; cases ry; obtain ⟨t', rfl⟩ := rw_; exact ⟨RcAt.int_str _ t _ t', EqAt.int_str _ t _ t', RcNeAt.int_str _ t _ t'⟩
          · cases h
            obtain ⟨m, us, rfl, t2, r2⟩ := ry
            cases rw_
            obtain ⟨js, v2, ⟨o, ho, hc, k, hd⟩, _⟩ := I.tuple t2.sqT
            have hm : s.heap.IsTuple m js.toArray := ⟨o, ho, hc, k, hd⟩
            exact ⟨RcAt.int_tuple _ t hm hu0, EqAt.int_tuple _ t hm hu0, RcNeAt.int_tuple _ t hm hu0⟩
        | str c =>
          cases rx; obtain ⟨t, rfl⟩ := ru
          cases y <;> first | (cases h; done) | skip
          · cases h; cases ry; cases rw_; exact ⟨RcAt.str_none _ t, EqAt.str_none _ t, RcNeAt.str_none _ t⟩
          · cases h; cases ry; cases rw_; exact ⟨RcAt.str_bool _ t _, EqAt.str_bool _ t _, RcNeAt.str_bool _ t _⟩
          · cases h; cases ry; obtain ⟨t', rfl⟩ := rw_; exact ⟨RcAt.str_int _ t _ t', EqAt.str_int _ t _ t', RcNeAt.str_int _ t _ t'⟩
          · cases h; cases ry; obtain ⟨t', rfl⟩ := rw_; exact ⟨RcAt.str_str _ t _ t', EqAt.str_str _ t _ t', RcNeAt.str_str _ t _ t'⟩
          · cases h
            obtain ⟨m, us, rfl, t2, r2⟩ := ry
            cases rw_
            obtain ⟨js, v2, ⟨o, ho, hc, k, hd⟩, _⟩ := I.tuple t2.sqT
            have hm : s.heap.IsTuple m js.toArray := ⟨o, ho, hc, k, hd⟩
            exact ⟨RcAt.str_tuple _ t hm hu0, EqAt.str_tuple _ t hm hu0, RcNeAt.str_tuple _ t hm hu0⟩
        | tup xs =>
          obtain ⟨l, vs, rfl, t1, r1⟩ := id rx
          cases ru
          obtain ⟨is, v1, ⟨o, ho, hc, k, hd⟩, _⟩ := I.tuple t1.sqT
          have hl : s.heap.IsTuple l is.toArray := ⟨o, ho, hc, k, hd⟩
          cases y <;> first | (cases h; done) | skip
          · cases h; cases ry; cases rw_; exact ⟨RcAt.tuple_none hl hu0, EqAt.tuple_none hl hu0, RcNeAt.tuple_none hl hu0⟩
          · cases h; cases ry; cases rw_; exact ⟨RcAt.tuple_bool _ hl hu0, EqAt.tuple_bool _ hl hu0, RcNeAt.tuple_bool _ hl hu0⟩
          · cases h; cases ry; obtain ⟨t', rfl⟩ := rw_; exact ⟨RcAt.tuple_int _ t' hl hu0, EqAt.tuple_int _ t' hl hu0, RcNeAt.tuple_int _ t' hl hu0⟩
          · cases h; cases ry; obtain ⟨t', rfl⟩ := rw_; exact ⟨RcAt.tuple_str _ t' hl hu0, EqAt.tuple_str _ t' hl hu0, RcNeAt.tuple_str _ t' hl hu0⟩
          · rename_i ys
            obtain ⟨m, us, rfl, t2, r2⟩ := id ry
            cases rw_
            obtain ⟨js, v2, ⟨o2, ho2, hc2, k2, hd2⟩, _⟩ := I.tuple t2.sqT
            have hm : s.heap.IsTuple m js.toArray := ⟨o2, ho2, hc2, k2, hd2⟩
            obtain ⟨he, l1, l2⟩ := els xs ys vs us is js b h r1 r2 v1 v2
            have eb : b = ((List.range (min is.toArray.size js.toArray.size)).all (eAt (eqD n T) xs ys) && is.toArray.size == js.toArray.size) := by
              rw [eqAll_eq _ xs ys b h]
              simp [l1, l2]
            refine ⟨by rw [eb]; exact RcAt.tuples hl hm hu0 he, ?_, by rw [eb]; exact RcNeAt.tuples hl hm hu0 he⟩
            by_cases hlm : l = m
            · subst hlm
              rw [hs _ rx ry]
              exact EqAt.same _
            · rw [eb]
              exact EqAt.of_refs hlm (RcAt.tuples hl hm hu0 he)
        | _ => cases y <;> cases h
end
end Pz

set_option Elab.async false
set_option linter.all false
set_option maxRecDepth 100000
set_option maxHeartbeats 2000000
/-! S0: the order of data; sorting. -/
namespace Pz
open PySem PySem.W

mutual
def pd : D → PyData
  | .non => .none
  | .bl b => .bool b
  | .int i => .int i
  | .str x => .str x
  | .tup xs => .tuple (pds xs)
  | _ => .none
def pds : List D → List PyData
  | [] => []
  | x :: xs => pd x :: pds xs
end
theorem pds_map : ∀ xs : List D, pds xs = xs.map pd
  | [] => rfl
  | x :: xs => by rw [pds, List.map_cons, pds_map xs]
mutual
theorem alike_pd : ∀ (x y : D), alikeD x y = true → alike (pd x) (pd y) = true
  | .non, y, h => by cases y <;> first | rfl | cases h
  | .bl _, y, h => by cases y <;> first | rfl | cases h
  | .int _, y, h => by cases y <;> first | rfl | cases h
  | .str _, y, h => by cases y <;> first | rfl | cases h
  | .tup xs, y, h => by
    cases y <;> first | (cases h; done) | skip
    rename_i ys
    rw [pd, pd, alike]
    exact alikes_pd xs ys (by simpa [alikeD] using h)
  | .lst _, y, h => by cases y <;> cases h
  | .ext _ _, y, h => by cases y <;> cases h
  | .ref _, y, h => by cases y <;> cases h
theorem alikes_pd : ∀ (xs ys : List D), alikeDs xs ys = true → alikeAll (pds xs) (pds ys) = true
  | [], ys, _ => by cases ys <;> rfl
  | x :: xs, [], _ => rfl
  | x :: xs, y :: ys, h => by
    rw [alikeDs, Bool.and_eq_true] at h
    rw [pds, pds, alikeAll, Bool.and_eq_true]
    exact ⟨alike_pd x y h.1, alikes_pd xs ys h.2⟩
end
mutual
theorem same_pd : ∀ (x y : D), alikeD x y = true → PyData.eqv (pd x) (pd y) = sameD x y
  | .non, y, h => by cases y <;> first | (simp [pd, PyData.eqv, sameD]; done) | cases h
  | .bl _, y, h => by cases y <;> first | (simp [pd, PyData.eqv, sameD]; done) | cases h
  | .int a, y, h => by
    cases y <;> first | (cases h; done) | skip
    rename_i b
    rw [pd, pd, PyData.eqv, sameD]
    by_cases e : a = b <;> simp [e]
  | .str a, y, h => by
    cases y <;> first | (cases h; done) | skip
    rename_i b
    rw [pd, pd, PyData.eqv, sameD]
    by_cases e : a = b <;> simp [e]
  | .tup xs, y, h => by
    cases y <;> first | (cases h; done) | skip
    rename_i ys
    rw [pd, pd, PyData.eqv, sameD]
    exact sames_pd xs ys (by simpa [alikeD] using h)
  | .lst _, y, h => by cases y <;> cases h
  | .ext _ _, y, h => by cases y <;> cases h
  | .ref _, y, h => by cases y <;> cases h
theorem sames_pd : ∀ (xs ys : List D), alikeDs xs ys = true → PyData.eqvAll (pds xs) (pds ys) = sameL xs ys
  | [], [], _ => by simp [pds, PyData.eqvAll, sameL]
  | [], y :: ys, _ => by simp [pds, PyData.eqvAll, sameL]
  | x :: xs, [], _ => by simp [pds, PyData.eqvAll, sameL]
  | x :: xs, y :: ys, h => by
    rw [alikeDs, Bool.and_eq_true] at h
    rw [pds, pds, eqv_all_cons, sameL, same_pd x y h.1, sames_pd xs ys h.2]
end
mutual
theorem less_pd : ∀ (x y : D), alikeD x y = true → dataLt (pd x) (pd y) = lessD x y
  | .non, y, h => by cases y <;> first | rfl | cases h
  | .bl a, y, h => by
    cases y <;> first | (cases h; done) | skip
    rename_i b
    rw [pd, pd, dataLt_bool, lessD]
    cases a <;> cases b <;> rfl
  | .int _, y, h => by
    cases y <;> first | (cases h; done) | skip
    rw [pd, pd, dataLt_int, lessD]
  | .str _, y, h => by
    cases y <;> first | (cases h; done) | skip
    rw [pd, pd, dataLt_str, lessD, ltS]
  | .tup xs, y, h => by
    cases y <;> first | (cases h; done) | skip
    rename_i ys
    rw [pd, pd, dataLt_tuple, lessD]
    exact lesss_pd xs ys (by simpa [alikeD] using h)
  | .lst _, y, h => by cases y <;> cases h
  | .ext _ _, y, h => by cases y <;> cases h
  | .ref _, y, h => by cases y <;> cases h
theorem lesss_pd : ∀ (xs ys : List D), alikeDs xs ys = true → PyProof.Rows.lexLt PyProof.Rows.itemOrd (keyToksAll (pds xs)) (keyToksAll (pds ys)) = lessDs xs ys
  | [], [], _ => by rw [pds, lessDs]; exact PyProof.Rows.lex_irrefl _
  | [], y :: ys, _ => by
    rw [pds, pds, lessDs, keyToksAll, keyToksAll, PyProof.Rows.lex_diff (O := PyProof.Rows.itemOrd) (by simp)]
    rfl
  | x :: xs, [], _ => by
    rw [pds, pds, lessDs, keyToksAll, keyToksAll, PyProof.Rows.lex_diff (O := PyProof.Rows.itemOrd) (by simp)]
    rfl
  | x :: xs, y :: ys, h => by
    rw [alikeDs, Bool.and_eq_true] at h
    rw [pds, pds, lessDs]
    have e := same_pd x y h.1
    cases q : sameD x y with
    | true =>
      rw [q] at e
      rw [dataLt_all_yes (alike_pd x y h.1) e]
      exact lesss_pd xs ys h.2
    | false =>
      rw [q] at e
      rw [dataLt_all_no (alike_pd x y h.1) e]
      exact less_pd x y h.1
end
/-! ### sorting by insertion -/
section
variable {α : Type}
def insG (lt : α → α → Bool) (x : α) : List α → List α
  | [] => [x]
  | y :: ys => match lt y x with
    | true => y :: insG lt x ys
    | false => x :: y :: ys
def sortG (lt : α → α → Bool) : List α → List α
  | [] => []
  | x :: xs => insG lt x (sortG lt xs)
theorem insG_perm (lt : α → α → Bool) (x : α) : ∀ ys : List α, (insG lt x ys).Perm (x :: ys)
  | [] => List.Perm.refl _
  | y :: ys => by
    unfold insG
    split
    · exact ((insG_perm lt x ys).cons y).trans (List.Perm.swap x y ys)
    · exact List.Perm.refl _
theorem sortG_perm (lt : α → α → Bool) : ∀ xs : List α, (sortG lt xs).Perm xs
  | [] => List.Perm.refl _
  | x :: xs => (insG_perm lt x _).trans ((sortG_perm lt xs).cons x)
variable {le : α → α → Bool}
theorem insG_sorted (h : TotalLe le) (x : α) : ∀ ys : List α, ys.Pairwise (fun a b => le a b = true) → (insG (fun a b => !le b a) x ys).Pairwise (fun a b => le a b = true)
  | [], _ => List.pairwise_singleton _ _
  | y :: ys, p => by
    obtain ⟨p1, p2⟩ := List.pairwise_cons.mp p
    unfold insG
    split
    · rename_i q
      have q : le x y = false := by simpa using q
      have yx : le y x = true := (h.total x y).resolve_left (by rw [q]; decide)
      refine List.pairwise_cons.mpr ⟨fun z hz => ?_, insG_sorted h x ys p2⟩
      rcases List.mem_cons.mp ((insG_perm _ x ys).mem_iff.mp hz) with e | hz
      · rw [e]; exact yx
      · exact p1 z hz
    · rename_i q
      have q : le x y = true := by simpa using q
      refine List.pairwise_cons.mpr ⟨fun z hz => ?_, p⟩
      rcases List.mem_cons.mp hz with e | hz
      · rw [e]; exact q
      · exact h.trans _ _ _ q (p1 z hz)
theorem insG_filter (h : TotalLe le) (c x : α) : ∀ ys : List α, (insG (fun a b => !le b a) x ys).filter (sameRank le c) = (x :: ys).filter (sameRank le c)
  | [] => rfl
  | y :: ys => by
    unfold insG
    split
    · rename_i q
      have q : le x y = false := by simpa using q
      have yx : le y x = true := (h.total x y).resolve_left (by rw [q]; decide)
      rw [List.filter_cons, insG_filter h c x ys, List.filter_cons, List.filter_cons, List.filter_cons]
      cases a : sameRank le c x with
      | false => simp
      | true =>
        have b : sameRank le c y = false := by
          cases b : sameRank le c y with
          | false => rfl
          | true =>
            unfold sameRank at a b
            simp only [Bool.and_eq_true] at a b
            have := h.trans _ _ _ a.2 b.1
            rw [q] at this
            cases this
        simp [b]
    · rfl
theorem sortG_eq (h : TotalLe le) (l : List α) : sortG (fun a b => !le b a) l = l.mergeSort le := by
  refine sort_unique h ?_ fun c => ?_
  · induction l with
    | nil => exact List.Pairwise.nil
    | cons x xs ih => exact insG_sorted h x _ ih
  · induction l with
    | nil => rfl
    | cons x xs ih =>
      rw [sortG, insG_filter h c x, List.filter_cons, List.filter_cons, ih]
theorem insG_congr {lt lt' : α → α → Bool} (x : α) : ∀ ys : List α, (∀ y ∈ ys, lt y x = lt' y x) → insG lt x ys = insG lt' x ys
  | [], _ => rfl
  | y :: ys, e => by
    unfold insG
    rw [e y List.mem_cons_self, insG_congr x ys fun z hz => e z (List.mem_cons_of_mem _ hz)]
theorem sortG_congr {lt lt' : α → α → Bool} : ∀ xs : List α, (∀ x ∈ xs, ∀ y ∈ xs, lt x y = lt' x y) → sortG lt xs = sortG lt' xs
  | [], _ => rfl
  | x :: xs, e => by
    rw [sortG, sortG, sortG_congr xs fun a ha b hb => e a (List.mem_cons_of_mem _ ha) b (List.mem_cons_of_mem _ hb)]
    exact insG_congr x _ fun y hy => e y (List.mem_cons_of_mem _ ((sortG_perm _ xs).mem_iff.mp hy)) x List.mem_cons_self
end
theorem insD_eq (x : D) : ∀ ys : List D, insD x ys = insG lessD x ys
  | [] => rfl
  | y :: ys => by
    rw [insD, insG, insD_eq x ys]
    try (cases lessD y x <;> rfl)
theorem sortD_eq : ∀ xs : List D, sortD xs = sortG lessD xs
  | [] => rfl
  | x :: xs => by rw [sortD, sortG, sortD_eq xs, insD_eq]
theorem dataLe_tot (enc : D → PyData) : TotalLe (dataLe false enc) := sortLe_total _ _ _
/-- the sorted list is the one that Python's sort gives -/
theorem sortD_merge {xs : List D} (h : ∀ x ∈ xs, ∀ y ∈ xs, alikeD x y = true) : sortD xs = xs.mergeSort (dataLe false pd) := by
  rw [sortD_eq, ← sortG_eq (dataLe_tot pd) xs]
  refine sortG_congr xs fun x hx y hy => ?_
  rw [← less_pd x y (h x hx y hy)]
  show dataLt (pd x) (pd y) = !(!_)
  rw [Bool.not_not]
  rfl
end Pz

set_option Elab.async false
set_option linter.all false
set_option maxRecDepth 100000
set_option maxHeartbeats 2000000
/-! S0b: data as they are read in the heap. -/
namespace Pz
open PySem PySem.Spec L2
mutual
theorem reads_of {X : Cx} {pins : List (Addr × Obj)} {σ : L2.St} {H : Hp} {s : Shared} {R : Rho} (I : Inv X pins σ H s) : ∀ (d : D) (x : V) (v : Value), alikeD d d = true → Rep X.K R H d x → RelV x v → ∃ as, Reads s.heap v (pd d) as
  | .non, x, v, _, r, q => by cases r; cases v <;> first | exact ⟨_, .none⟩ | cases q
  | .bl b, x, v, _, r, q => by
    cases r
    cases v <;> first | (cases q; done) | skip
    cases q
    exact ⟨_, .bool _⟩
  | .int i, x, v, _, r, q => by
    cases r
    obtain ⟨t, rfl⟩ := q
    exact ⟨_, .int _ _⟩
  | .str z, x, v, _, r, q => by
    cases r
    obtain ⟨t, rfl⟩ := q
    exact ⟨_, .str _ _⟩
  | .tup ds, x, v, h, r, q => by
    obtain ⟨a, vs, rfl, t, rs⟩ := r
    obtain rfl : v = Value.ref a := q
    obtain ⟨its, rv, ⟨o, ho, hc, n, hd⟩, _⟩ := I.tuple (SqT.of (K := X.K) t.2)
    obtain ⟨as, ra⟩ := readss_of I ds vs its (by simpa [alikeD] using h) rs rv
    rw [pd]
    exact ⟨as, .tuple ho hc hd (by simpa using ra)⟩
  | .lst _, _, _, h, _, _ => by cases h
  | .ext _ _, _, _, h, _, _ => by cases h
  | .ref _, _, _, h, _, _ => by cases h
theorem readss_of {X : Cx} {pins : List (Addr × Obj)} {σ : L2.St} {H : Hp} {s : Shared} {R : Rho} (I : Inv X pins σ H s) : ∀ (ds : List D) (xs : List V) (vs : List Value), alikeDs ds ds = true → Reps X.K R H ds xs → Vals xs vs → ∃ as, ReadsAll s.heap vs (pds ds) as
  | [], xs, vs, _, r, q => by
    cases r
    cases q
    rw [pds]
    exact ⟨_, .nil⟩
  | d :: ds, xs, vs, h, r, q => by
    obtain ⟨x, rest, rfl, r1, r2⟩ := r
    rw [alikeDs, Bool.and_eq_true] at h
    cases q with
    | cons q1 q2 =>
      obtain ⟨as, h1⟩ := reads_of I d x _ h.1 r1 q1
      obtain ⟨bs, h2⟩ := readss_of I ds rest _ h.2 r2 q2
      rw [pds]
      exact ⟨_, .cons h1 h2⟩
end
theorem depthAll_le {n : Nat} : ∀ (xs : List D), (∀ x ∈ xs, (pd x).depth ≤ n) → PyData.depthAll (pds xs) ≤ n
  | [], _ => by rw [pds]; exact Nat.zero_le _
  | x :: xs, h => by
    rw [pds, PyData.depthAll]
    exact Nat.max_le.mpr ⟨h x List.mem_cons_self, depthAll_le xs fun y hy => h y (List.mem_cons_of_mem _ hy)⟩
theorem shal_depth : ∀ (n : Nat) (d : D), shal n d = true → (pd d).depth ≤ n
  | n + 1, .tup xs, h => by
    rw [pd, PyData.depth]
    refine Nat.succ_le_succ (depthAll_le xs fun x hx => shal_depth n x ?_)
    have h : (xs.all (shal n)) = true := h
    exact List.all_eq_true.mp h x hx
  | 0, .tup xs, h => by cases h
  | n, .non, _ => Nat.zero_le _
  | n, .bl _, _ => Nat.zero_le _
  | n, .int _, _ => Nat.zero_le _
  | n, .str _, _ => Nat.zero_le _
  | n, .lst _, _ => Nat.zero_le _
  | n, .ext _ _, _ => Nat.zero_le _
  | n, .ref _, _ => Nat.zero_le _
  | n, .obj _ _ _, _ => Nat.zero_le _
  | n, .lab _, _ => Nat.zero_le _
end Pz

set_option Elab.async false
set_option linter.all false
set_option maxRecDepth 100000
set_option maxHeartbeats 1000000
/-! I3c: comparisons. -/
namespace Pz
open PySem PySem.Spec L2 PySem.SeqAt

section
variable {X : Cx} {pins : List (Addr × Obj)} {σ : L2.St} {H : Hp} {s : Shared} {R : Rho} {T : Store}
theorem list_no_tup (I : Inv X pins σ H s) {a : Addr} {vs us : List V} (h : H a = some (.lst vs)) (t : SqT X.K H a us) : False := by
  obtain ⟨its, _, ⟨o, n', ho, hc, _⟩, _⟩ := I.list (SqL.of (K := X.K) h)
  obtain ⟨its', _, ⟨o', ho', hc', _⟩, _⟩ := I.tuple t
  rw [ho] at ho'
  cases ho'
  rw [hc] at hc'
  exact absurd hc' (by simp)
/-- the answer hangs on the value alone -/
theorem eq_fun (I : Inv X pins σ H s) (st : StOk X.K R T H) : ∀ (n : Nat) (x y z : D) (v : V) (b c : Bool), eqD n T x z = some b → eqD n T y z = some c → Rep X.K R H x v → Rep X.K R H y v → b = c := by
  intro n
  induction n with
  | zero => intro x y z v b c h; cases h
  | succ n ih =>
    intro x y z v b c hb hc rx ry
    have all : ∀ (xs ys zs : List D) (vs : List V) (b c : Bool), eqAll (eqD n T) xs zs = some b → eqAll (eqD n T) ys zs = some c → Reps X.K R H xs vs → Reps X.K R H ys vs → b = c := by
      intro xs
      induction xs with
      | nil =>
        intro ys zs vs b c h1 h2 r1 r2
        cases r1
        cases ys with
        | nil => rw [h1] at h2; exact Option.some.inj h2
        | cons y ys => obtain ⟨_, _, q, _⟩ := r2; cases q
      | cons x xs ihx =>
        intro ys zs vs b c h1 h2 r1 r2
        obtain ⟨v, r, rfl, p1, p2⟩ := r1
        cases ys with
        | nil => cases r2
        | cons y ys =>
          obtain ⟨v', r', q, p3, p4⟩ := r2
          cases q
          cases zs with
          | nil => cases h1; cases h2; rfl
          | cons z zs =>
            unfold eqAll at h1 h2
            cases e1 : eqD n T x z with
            | none => rw [e1] at h1; cases h1
            | some b1 =>
              cases e2 : eqAll (eqD n T) xs zs with
              | none => rw [e1, e2] at h1; cases h1
              | some b2 =>
                cases e3 : eqD n T y z with
                | none => rw [e3] at h2; cases h2
                | some c1 =>
                  cases e4 : eqAll (eqD n T) ys zs with
                  | none => rw [e3, e4] at h2; cases h2
                  | some c2 =>
                    rw [e1, e2] at h1
                    rw [e3, e4] at h2
                    cases h1
                    cases h2
                    rw [ih x y z v b1 c1 e1 e3 p1 p3, ihx ys zs r b2 c2 e2 e4 p2 p4]
    unfold eqD at hb hc
    cases e1 : isList T x with
    | some xs =>
      obtain ⟨a, vs, rfl, q1, r1⟩ := isList_at st e1 rx
      cases e2 : isList T y with
      | some ys =>
        obtain ⟨a', vs', q, q2, r2⟩ := isList_at st e2 ry
        cases q
        rw [q1] at q2
        cases q2
        cases e3 : isList T z with
        | some zs =>
          rw [e1, e3] at hb
          rw [e2, e3] at hc
          exact all xs ys zs vs b c hb hc r1 r2
        | none =>
          rw [e1, e3] at hb
          rw [e2, e3] at hc
          rw [(eqX_sc hb).1, (eqX_sc hc).1]
      | none =>
        exfalso
        cases y <;> first
          | (obtain ⟨a', vs', q, t, _⟩ := ry; cases q; exact list_no_tup I q1 t.sqT)
          | (cases ry; done)
          | (cases e2; done)
          | skip
        · cases e3 : isList T z with
          | some zs => rw [e2, e3] at hc; cases hc
          | none => rw [e2, e3] at hc; cases z <;> cases hc
        · cases e3 : isList T z with
          | some zs => rw [e2, e3] at hc; cases hc
          | none => rw [e2, e3] at hc; cases z <;> cases hc
        · cases e3 : isList T z with
          | some zs => rw [e2, e3] at hc; cases hc
          | none => rw [e2, e3] at hc; cases z <;> cases hc
    | none =>
      cases e2 : isList T y with
      | some ys =>
        obtain ⟨a, vs, rfl, q1, r1⟩ := isList_at st e2 ry
        exfalso
        cases x <;> first
          | (obtain ⟨a', vs', q, t, _⟩ := rx; cases q; exact list_no_tup I q1 t.sqT)
          | (cases rx; done)
          | (cases e1; done)
          | skip
        · cases e3 : isList T z with
          | some zs => rw [e1, e3] at hb; cases hb
          | none => rw [e1, e3] at hb; cases z <;> cases hb
        · cases e3 : isList T z with
          | some zs => rw [e1, e3] at hb; cases hb
          | none => rw [e1, e3] at hb; cases z <;> cases hb
        · cases e3 : isList T z with
          | some zs => rw [e1, e3] at hb; cases hb
          | none => rw [e1, e3] at hb; cases z <;> cases hb
      | none =>
        cases e3 : isList T z with
        | some zs =>
          rw [e1, e3] at hb
          rw [e2, e3] at hc
          rw [(eqX_sc hb).1, (eqX_sc hc).1]
        | none =>
          rw [e1, e3] at hb
          rw [e2, e3] at hc
          cases x with
          | tup xs =>
            cases y with
            | tup ys =>
              obtain ⟨a, vs, rfl, t1, r1⟩ := rx
              obtain ⟨a', vs', q, t2, r2⟩ := ry
              cases q
              have e := t1.2.symm.trans t2.2
              cases e
              cases z <;> first
                | (cases hb; done)
                | (cases hb; cases hc; rfl)
                | exact all xs ys _ vs b c hb hc r1 r2
            | ext t ys => cases z <;> cases hc
            | ref m => cases z <;> cases hc
            | obj _ _ _ => cases z <;> cases hc
            | lab _ => cases z <;> cases hc
            | lst _ => cases e2
            | _ => obtain ⟨_, _, rfl, _⟩ := rx; cases ry
          | ext t xs => cases z <;> cases hb
          | ref m => cases z <;> cases hb
          | obj _ _ _ => cases z <;> cases hb
          | lab _ => cases z <;> cases hb
          | lst _ => cases e1
          | _ =>
            cases rx
            cases y <;> first
              | (cases ry; rw [hb] at hc; exact Option.some.inj hc)
              | (obtain ⟨_, _, q, _⟩ := ry; cases q; done)
              | (obtain ⟨_, q, _⟩ := ry; cases q; done)
              | (cases ry; done)

/-- the answers, by the values -/
theorem any_of (I : Inv X pins σ H s) (st : StOk X.K R T H) {x : D} {A : Around} {vx : V} {u : Value} (rx : Rep X.K R H x vx) (ru : RelV vx u) (hu : A.units + 61 < cLine) :
    ∀ (ys : List D) (vs : List V) (is : List Value) (b : Bool), anyEq T x ys = some b → Reps X.K R H ys vs → Vals vs is → ∃ e : Value → Bool, (∀ y ∈ is, EqAt A.in1 s y u (e y)) ∧ is.any e = b := by
  have one : ∀ (w : Value), ∃ c : Bool, ∀ (y : D) (v : V) (b : Bool), eqD 60 T y x = some b → Rep X.K R H y v → RelV v w → EqAt A.in1 s w u c ∧ c = b := by
    intro w
    by_cases h : ∃ (y : D) (v : V) (b : Bool), eqD 60 T y x = some b ∧ Rep X.K R H y v ∧ RelV v w
    · obtain ⟨y, v, b, e, r, rv⟩ := h
      refine ⟨b, fun y' v' b' e' r' rv' => ?_⟩
      have := rv.inj rv'
      subst this
      exact ⟨(eq_at I st 60 A.in1 y x v vx w u b e r rx rv ru (by show A.units + 1 + 60 < cLine; omega)).2.1, eq_fun I st 60 y y' x v b b' e e' r r'⟩
    · exact ⟨false, fun y v b e r rv => absurd ⟨y, v, b, e, r, rv⟩ h⟩
  intro ys vs is b h r rv
  refine ⟨fun w => Classical.choose (one w), ?_⟩
  induction ys generalizing vs is b with
  | nil =>
    cases r
    cases rv
    cases h
    exact ⟨fun _ h => absurd h (by simp), rfl⟩
  | cons y ys ih =>
    obtain ⟨v, vs, rfl, r1, r2⟩ := r
    cases rv with
    | @cons _ w _ is rv1 rv2 =>
      unfold anyEq at h
      cases e1 : eqD 60 T y x with
      | none => rw [e1] at h; cases h
      | some b1 =>
        cases e2 : anyEq T x ys with
        | none => rw [e1, e2] at h; cases h
        | some b2 =>
          rw [e1, e2] at h
          cases h
          obtain ⟨g1, g2⟩ := ih vs is b2 e2 r2 rv2
          have q := Classical.choose_spec (one w) y v b1 e1 r1 rv1
          refine ⟨fun z hz => ?_, ?_⟩
          · rcases List.mem_cons.mp hz with rfl | hz
            · exact q.1
            · exact g1 z hz
          · rw [List.any_cons, q.2, g2]
end

section
variable {X : Cx}
theorem optB_ok {o : Option Bool} {T T' : Store} {d : D} (h : optB o T = .ok d T') : ∃ b, o = some b ∧ d = .bl b ∧ T = T' := by
  cases o with
  | none => cases h
  | some b => cases h; exact ⟨b, rfl, rfl, rfl⟩
theorem notO_ok {o : Option Bool} {b : Bool} (h : notO o = some b) : ∃ c, o = some c ∧ b = !c := by
  cases o with
  | none => cases h
  | some c => cases h; exact ⟨c, rfl, rfl⟩
theorem op_eq_ok (hu : X.A.units + 64 < cLine) : OpR X (compareOp .Eq) (rdOp X.K (cmpD .eq)) := by
  intro pins s σ H vx vy v u Q I rv ru h
  obtain ⟨R, T, x, y, d, T', st, rx, ry, e, po⟩ := h
  obtain ⟨b, e1, rfl, rfl⟩ := optB_ok e
  exact (eq_at I st 60 X.A x y vx vy v u b e1 rx ry rv ru (by omega)).1 X.prog X.w X.xe _ ⟨.bl b, H, I, rfl, Post.now st po rfl⟩
theorem op_ne_ok (hu : X.A.units + 64 < cLine) : OpR X (compareOp .NotEq) (rdOp X.K (cmpD .ne)) := by
  intro pins s σ H vx vy v u Q I rv ru h
  obtain ⟨R, T, x, y, d, T', st, rx, ry, e, po⟩ := h
  obtain ⟨b, e1, rfl, rfl⟩ := optB_ok e
  obtain ⟨c, e2, rfl⟩ := notO_ok e1
  exact (eq_at I st 60 X.A x y vx vy v u c e2 rx ry rv ru (by omega)).2.2 X.prog X.w X.xe _ ⟨.bl _, H, I, rfl, Post.now st po rfl⟩
theorem op_lt_ok (hu : X.A.units + 64 < cLine) : OpR X (compareOp .Lt) (rdOp X.K (cmpD .lt)) := by
  intro pins s σ H vx vy v u Q I rv ru h
  obtain ⟨R, T, x, y, d, T', st, rx, ry, e, po⟩ := h
  obtain ⟨b, e1, rfl, rfl⟩ := optB_ok e
  cases x <;> cases y <;> first | (cases e1; done) | skip
  · cases e1; exact op_lt pins s σ H _ _ v u Q I rv ru ⟨_, _, rx, ry, Post.now st po rfl⟩
  · cases e1; exact op_lt_str pins s σ H _ _ v u Q I rv ru ⟨_, _, rx, ry, Post.now st po rfl⟩
  · rename_i xs ys
    have e1 : (match alikeDs xs ys && alikeDs xs xs && alikeDs ys ys && shal 20 (.tup xs) && shal 20 (.tup ys) with
      | true => some (lessDs xs ys)
      | false => none) = some b := e1
    split at e1
    · rename_i hc
      cases e1
      simp only [Bool.and_eq_true] at hc
      obtain ⟨⟨⟨⟨h1, h2⟩, h3⟩, h4⟩, h5⟩ := hc
      obtain ⟨as, ra⟩ := reads_of I (.tup xs) vx v (by rw [alikeD]; exact h2) rx rv
      obtain ⟨bs, rb⟩ := reads_of I (.tup ys) vy u (by rw [alikeD]; exact h3) ry ru
      have hal : alikeD (.tup xs) (.tup ys) = true := by rw [alikeD]; exact h1
      have hd := shal_depth 20 _ h4
      have key := PySem.W.rcLt_alike _ _ X.A s v u as bs ra rb (alike_pd _ _ hal) (by simp [pd]) (by
        have := Nat.min_le_left (pd (.tup xs)).depth (pd (.tup ys)).depth
        omega)
      rw [less_pd _ _ hal] at key
      exact key X.prog X.w X.xe _ ⟨.bl _, H, I, rfl, Post.now st po rfl⟩
    · cases e1
theorem op_gt_ok : OpR X (compareOp .Gt) (rdOp X.K (cmpD .gt)) := by
  intro pins s σ H vx vy v u Q I rv ru h
  obtain ⟨R, T, x, y, d, T', st, rx, ry, e, po⟩ := h
  obtain ⟨b, e1, rfl, rfl⟩ := optB_ok e
  cases x <;> cases y <;> first | (cases e1; done) | skip
  · cases e1; exact op_gt pins s σ H _ _ v u Q I rv ru ⟨_, _, rx, ry, Post.now st po rfl⟩
  · cases e1; exact op_gt_str pins s σ H _ _ v u Q I rv ru ⟨_, _, rx, ry, Post.now st po rfl⟩
theorem not_lt_int (i j : Int) : (!decide (j < i)) = decide (i ≤ j) := by
  by_cases h : j < i
  · simp [h, Int.not_le.mpr h]
  · simp [h, Int.not_lt.mp h]
theorem op_le_ok : OpR X (compareOp .LtE) (rdOp X.K (cmpD .le)) := by
  intro pins s σ H vx vy v u Q I rv ru h
  obtain ⟨R, T, x, y, d, T', st, rx, ry, e, po⟩ := h
  obtain ⟨b, e1, rfl, rfl⟩ := optB_ok e
  obtain ⟨c, e2, rfl⟩ := notO_ok e1
  cases x <;> cases y <;> first | (cases e2; done) | skip
  · cases e2
    rw [not_lt_int] at po
    exact op_le pins s σ H _ _ v u Q I rv ru ⟨_, _, rx, ry, Post.now st po rfl⟩
  · cases e2; exact op_le_str pins s σ H _ _ v u Q I rv ru ⟨_, _, rx, ry, Post.now st po rfl⟩
theorem op_ge_ok : OpR X (compareOp .GtE) (rdOp X.K (cmpD .ge)) := by
  intro pins s σ H vx vy v u Q I rv ru h
  obtain ⟨R, T, x, y, d, T', st, rx, ry, e, po⟩ := h
  obtain ⟨b, e1, rfl, rfl⟩ := optB_ok e
  obtain ⟨c, e2, rfl⟩ := notO_ok e1
  cases x <;> cases y <;> first | (cases e2; done) | skip
  · cases e2
    rw [not_lt_int] at po
    exact op_ge pins s σ H _ _ v u Q I rv ru ⟨_, _, rx, ry, Post.now st po rfl⟩
  · cases e2; exact op_ge_str pins s σ H _ _ v u Q I rv ru ⟨_, _, rx, ry, Post.now st po rfl⟩
theorem rep_isNon {K : PySem.W.Frag} {R : Rho} {H : Hp} {x : D} {v : V} (r : Rep K R H x v) : isNonD x = decide (v = .non) := by
  cases x with
  | non => cases r; rfl
  | bl b => cases r; rfl
  | int b => cases r; rfl
  | str b => cases r; rfl
  | tup ds => obtain ⟨a, vs, rfl, _⟩ := r; rfl
  | lst ds => obtain ⟨a, vs, rfl, _⟩ := r; rfl
  | ext t ds => obtain ⟨a, vs, rfl, _⟩ := r; rfl
  | ref n => obtain ⟨a, rfl, _⟩ := r; rfl
  | obj c ns ds => obtain ⟨a, vs, rfl, _⟩ := r; rfl
  | lab ds => obtain ⟨a, vs, rfl, _⟩ := r; rfl
theorem op_is_ok : OpR X (compareOp .Is) (rdOp X.K (cmpD .is)) := by
  intro pins s σ H vx vy v u Q I rv ru h
  obtain ⟨R, T, x, y, d, T', st, rx, ry, e, po⟩ := h
  cases y <;> first | (cases e; done) | skip
  cases e
  refine op_isN pins s σ H _ _ v u Q I rv ru ⟨ry, ?_⟩
  rw [← rep_isNon rx]
  exact Post.now st po rfl
theorem op_isnot_ok : OpR X (compareOp .IsNot) (rdOp X.K (cmpD .isnot)) := by
  intro pins s σ H vx vy v u Q I rv ru h
  obtain ⟨R, T, x, y, d, T', st, rx, ry, e, po⟩ := h
  cases y <;> first | (cases e; done) | skip
  cases e
  refine op_notN pins s σ H _ _ v u Q I rv ru ⟨ry, ?_⟩
  rw [← rep_isNon rx]
  exact Post.now st po rfl

/-! ### dicts -/
theorem keyK_v {K : PySem.W.Frag} {R : Rho} {H : Hp} {x : D} {k : Key} {v : V} (h : keyK x = some k) (r : Rep K R H x v) : v = kV k := by
  cases x <;> cases h <;> exact r
theorem keyK_eq {x y : D} {k l : Key} (h : keyK x = some k) (q : keyK y = some l) : keyEq x y = decide (k = l) := by
  cases x <;> cases h <;> cases y <;> cases q <;> simp [keyEq]
theorem keyKs_v {K : PySem.W.Frag} {R : Rho} {H : Hp} : ∀ {xs : List D} {ks : List Key} {vs : List V}, xs.mapM keyK = some ks → Reps K R H xs vs → vs = ks.map kV
  | [], ks, vs, h, r => by
    cases r
    simp at h
    subst h
    rfl
  | x :: xs, ks, vs, h, r => by
    obtain ⟨v, vs, rfl, r1, r2⟩ := r
    simp only [List.mapM_cons, Option.bind_eq_bind, Option.pure_def] at h
    cases e1 : keyK x with
    | none => rw [e1] at h; cases h
    | some k =>
      cases e2 : xs.mapM keyK with
      | none => rw [e1, e2] at h; cases h
      | some ks' =>
        rw [e1, e2] at h
        cases h
        rw [keyK_v e1 r1, keyKs_v e2 r2]
        rfl
theorem keyKs_eq : ∀ {xs ys : List D} {ks ls : List Key}, xs.mapM keyK = some ks → ys.mapM keyK = some ls → keyEq.all xs ys = decide (ks = ls)
  | [], [], ks, ls, h, q => by
    simp at h q
    subst h q
    rfl
  | [], y :: ys, ks, ls, h, q => by
    simp only [List.mapM_cons, Option.bind_eq_bind, Option.pure_def] at q
    cases e1 : keyK y with
    | none => rw [e1] at q; cases q
    | some k =>
      cases e2 : ys.mapM keyK with
      | none => rw [e1, e2] at q; cases q
      | some ks' =>
        rw [e1, e2] at q
        cases q
        simp at h
        subst h
        simp [keyEq.all]
  | x :: xs, [], ks, ls, h, q => by
    simp only [List.mapM_cons, Option.bind_eq_bind, Option.pure_def] at h
    cases e1 : keyK x with
    | none => rw [e1] at h; cases h
    | some k =>
      cases e2 : xs.mapM keyK with
      | none => rw [e1, e2] at h; cases h
      | some ks' =>
        rw [e1, e2] at h
        cases h
        simp at q
        subst q
        simp [keyEq.all]
  | x :: xs, y :: ys, ks, ls, h, q => by
    simp only [List.mapM_cons, Option.bind_eq_bind, Option.pure_def] at h q
    cases e1 : keyK x with
    | none => rw [e1] at h; cases h
    | some k =>
      cases e2 : xs.mapM keyK with
      | none => rw [e1, e2] at h; cases h
      | some ks' =>
        cases e3 : keyK y with
        | none => rw [e3] at q; cases q
        | some l =>
          cases e4 : ys.mapM keyK with
          | none => rw [e3, e4] at q; cases q
          | some ls' =>
            rw [e1, e2] at h
            rw [e3, e4] at q
            cases h
            cases q
            simp only [keyEq.all, keyK_eq e1 e3, keyKs_eq e2 e4]
            by_cases h1 : k = l <;> by_cases h2 : ks' = ls' <;> simp [h1, h2]
theorem keyT_eq {x y : D} {k l : List Key} (h : keyT x = some k) (q : keyT y = some l) : keyEq x y = decide (k = l) := by
  cases x <;> first | (cases h; done) | skip
  cases y <;> first | (cases q; done) | skip
  exact keyKs_eq h q
theorem keyOk_K {x : D} (h : keyOk x = true) (t : isTupD x = false) : ∃ k, keyK x = some k := by
  cases x <;> first | (cases h; done) | (cases t; done) | exact ⟨_, rfl⟩
theorem keyOkFs : ∀ {xs : List D}, xs.all keyOkF = true → ∃ ks, xs.mapM keyK = some ks
  | [], _ => ⟨[], rfl⟩
  | x :: xs, h => by
    rw [List.all_cons, Bool.and_eq_true] at h
    obtain ⟨ks, e⟩ := keyOkFs h.2
    have : ∃ k, keyK x = some k := by have h1 := h.1; cases x <;> first | exact ⟨_, rfl⟩ | (cases h1)
    obtain ⟨k, e1⟩ := this
    exact ⟨k :: ks, by simp [List.mapM_cons, e1, e]⟩
theorem keyOk_T {x : D} (h : keyOk x = true) (t : isTupD x = true) : ∃ k, keyT x = some k := by
  cases x <;> first | (cases t; done) | skip
  exact keyOkFs h
theorem dget_K {K : PySem.W.Frag} {R : Rho} {H : Hp} {x : D} {k : Key} (hk : keyK x = some k) : ∀ {kvs : List (D × D)} {ks : List (Key × V)}, PairsK K R H kvs ks →
    match dget kvs x with
    | some d => ∃ v, valV ks k = some v ∧ Rep K R H d v
    | none => valV ks k = none
  | [], ks, h => by cases h; rfl
  | (k', d) :: r, ks, h => by
    obtain ⟨l, v, r', rfl, e, h1, h2⟩ := h
    have ih := dget_K hk h2
    unfold dget
    rw [keyK_eq e hk]
    unfold valV
    rw [List.find?_cons]
    by_cases hl : l = k
    · simp only [hl, decide_true]
      exact ⟨v, rfl, h1⟩
    · simp only [hl, decide_false]
      exact ih
theorem dget_T {K : PySem.W.Frag} {R : Rho} {H : Hp} {x : D} {k : List Key} (hk : keyT x = some k) : ∀ {kvs : List (D × D)} {ks : List (List Key × V)}, PairsT K R H kvs ks →
    match dget kvs x with
    | some d => ∃ v, valV ks k = some v ∧ Rep K R H d v
    | none => valV ks k = none
  | [], ks, h => by cases h; rfl
  | (k', d) :: r, ks, h => by
    obtain ⟨l, v, r', rfl, e, h1, h2⟩ := h
    have ih := dget_T hk h2
    unfold dget
    rw [keyT_eq e hk]
    unfold valV
    rw [List.find?_cons]
    by_cases hl : l = k
    · simp only [hl, decide_true]
      exact ⟨v, rfl, h1⟩
    · simp only [hl, decide_false]
      exact ih
/-- a dict's cell is asked -/
theorem dictFor_at {K : PySem.W.Frag} {R : Rho} {T : Store} {H : Hp} {o k : D} {vo vk : V} {kvs : List (D × D)} (st : StOk K R T H) (h : dictFor T o k = some kvs) (ro : Rep K R H o vo) (rk : Rep K R H k vk) :
    ∃ a r, vo = .ref a ∧ DGet H a vk r ∧ match dget kvs k with
      | some d => ∃ v, r = some v ∧ Rep K R H d v
      | none => r = none := by
  cases o <;> first | (cases h; done) | skip
  rename_i n
  obtain ⟨a, rfl, c⟩ := ro
  simp only [dictFor] at h
  cases e2 : T[n]? with
  | none => rw [e2] at h; cases h
  | some cl =>
    rw [e2] at h
    cases cl with
    | dic t kvs' =>
      obtain ⟨hc, _⟩ := st.cell n a _ c e2 rfl
      cases hk : keyOk k && (isTupD k == t) with
      | false => simp only [hk] at h; cases h
      | true =>
        simp only [hk] at h
        cases h
        rw [Bool.and_eq_true, beq_iff_eq] at hk
        cases t with
        | false =>
          obtain ⟨ks, e, r⟩ := hc
          obtain ⟨k', ek⟩ := keyOk_K hk.1 hk.2
          have ev := keyK_v ek rk
          subst ev
          exact ⟨a, valV ks k', rfl, DGet.k e, dget_K ek r⟩
        | true =>
          obtain ⟨ks, e, r⟩ := hc
          obtain ⟨k', ek⟩ := keyOk_T hk.1 hk.2
          cases k <;> first | (cases ek; done) | skip
          obtain ⟨b, vs, rfl, t, rs⟩ := rk
          have ev := keyKs_v ek rs
          subst ev
          exact ⟨a, valV ks k', rfl, DGet.t e t.2, dget_T ek r⟩
    | _ => cases h

theorem in_ok (hu : X.A.units + 64 < cLine) {pins : List (Addr × Obj)} {s : Shared} {σ : L2.St} {H : Hp} {vx vy : V} {v u : Value} {R : Rho} {T : Store} {x y : D} {b : Bool} (I : Inv X pins σ H s) (rv : RelV vx v) (ru : RelV vy u) (st : StOk X.K R T H)
    (rx : Rep X.K R H x vx) (ry : Rep X.K R H y vy) (e : inD T x y = some b) {Q : Value → Shared → Prop} {E : Value → Shared → Prop} :
    ((∀ s', Inv X pins σ H s' → Q (.bool b) s') → wpAny (model X.prog X.w) X.A (compareOp .In v u) Q E s) ∧ ((∀ s', Inv X pins σ H s' → Q (.bool (!b)) s') → wpAny (model X.prog X.w) X.A (compareOp .NotIn v u) Q E s) := by
  have seq : ∀ ys, isSeq T y = some ys → anyEq T x ys = some b → ((∀ s', Inv X pins σ H s' → Q (.bool b) s') → wpAny (model X.prog X.w) X.A (compareOp .In v u) Q E s) ∧ ((∀ s', Inv X pins σ H s' → Q (.bool (!b)) s') → wpAny (model X.prog X.w) X.A (compareOp .NotIn v u) Q E s) := by
    intro ys e1 e2
    obtain ⟨a, vs, rfl, q, r⟩ := isSeq_at st e1 ry
    cases ru
    rcases q with q | q
    · obtain ⟨is, rvs, pl, _⟩ := I.list q
      obtain ⟨f, h1, h2⟩ := any_of I st rx rv (A := X.A) (by omega) ys vs is b e2 r rvs
      have h3 : is.toArray.any f = b := by simpa using h2
      exact ⟨fun h => in_listAt f pl.isList (fun y hy => h1 y (by simpa using hy)) (by rw [h3]; exact h s I), fun h => notIn_listAt f pl.isList (fun y hy => h1 y (by simpa using hy)) (by rw [h3]; exact h s I)⟩
    · obtain ⟨is, rvs, ⟨o, ho, hc, k, hd⟩, _⟩ := I.tuple q
      obtain ⟨f, h1, h2⟩ := any_of I st rx rv (A := X.A) (by omega) ys vs is b e2 r rvs
      have h3 : is.toArray.any f = b := by simpa using h2
      have hl : s.heap.IsTuple a is.toArray := ⟨o, ho, hc, k, hd⟩
      exact ⟨fun h => in_tupleAt f hl (fun y hy => h1 y (by simpa using hy)) (by rw [h3]; exact h s I), fun h => notIn_tupleAt f hl (fun y hy => h1 y (by simpa using hy)) (by rw [h3]; exact h s I)⟩
  have dict : ∀ kvs, dictFor T y x = some kvs → b = (dget kvs x).isSome → ((∀ s', Inv X pins σ H s' → Q (.bool b) s') → wpAny (model X.prog X.w) X.A (compareOp .In v u) Q E s) ∧ ((∀ s', Inv X pins σ H s' → Q (.bool (!b)) s') → wpAny (model X.prog X.w) X.A (compareOp .NotIn v u) Q E s) := by
    intro kvs e1 e2
    obtain ⟨a, r, rfl, g, m⟩ := dictFor_at st e1 ry rx
    cases ru
    have er : r.isSome = b := by
      rw [e2]
      cases e3 : dget kvs x with
      | none => rw [e3] at m; rw [m]; rfl
      | some d =>
        rw [e3] at m
        obtain ⟨v', m, _⟩ := m
        rw [m]
        rfl
    exact ⟨fun h => d_in (by omega) I g rv fun s' I' => by rw [er]; exact h s' I', fun h => d_notIn (by omega) I g rv fun s' I' => by rw [er]; exact h s' I'⟩
  cases y with
  | str z =>
    cases x <;> first | (cases e; done) | skip
    rename_i a
    cases rx
    cases ry
    obtain ⟨t1, rfl⟩ := rv
    obtain ⟨t2, rfl⟩ := ru
    simp only [inD] at e
    have gen : b = !(Builtin.Str.occurrences z a 0 z.length 1).isEmpty → ((∀ s', Inv X pins σ H s' → Q (.bool b) s') → wpAny (model X.prog X.w) X.A (compareOp .In (.str a t1) (.str z t2)) Q E s) ∧ ((∀ s', Inv X pins σ H s' → Q (.bool (!b)) s') → wpAny (model X.prog X.w) X.A (compareOp .NotIn (.str a t1) (.str z t2)) Q E s) := by
      rintro rfl
      refine ⟨fun h => ?_, fun h => ?_⟩
      · exact wpAny_mono (op_in_str (X := X.wish E) pins s σ H (.str a) (.str z) _ _ (fun w H' => w = .bl (!(Builtin.Str.occurrences z a 0 z.length 1).isEmpty) ∧ H' = H) (I.wish E) ⟨t1, rfl⟩ ⟨t2, rfl⟩ ⟨a, z, rfl, rfl, rfl, rfl⟩) (fun w s' ⟨_, _, I', r', q1, q2⟩ => by
          subst q1 q2
          cases r'
          exact h s' I'.unwish) fun _ _ z => z
      · exact wpAny_mono (op_notin_str (X := X.wish E) pins s σ H (.str a) (.str z) _ _ (fun w H' => w = .bl (!(!(Builtin.Str.occurrences z a 0 z.length 1).isEmpty)) ∧ H' = H) (I.wish E) ⟨t1, rfl⟩ ⟨t2, rfl⟩ ⟨a, z, rfl, rfl, rfl, rfl⟩) (fun w s' ⟨_, _, I', r', q1, q2⟩ => by
          subst q1 q2
          cases r'
          exact h s' I'.unwish) fun _ _ z => z
    split at e
    · rename_i c hc
      have ea : a = ⟨#[c]⟩ := by
        obtain ⟨arr⟩ := a
        congr
        have : arr.toList = [c] := hc
        rw [← Array.toArray_toList (xs := arr), this]
      cases e
      subst ea
      refine ⟨fun h => ?_, fun h => ?_⟩
      · exact wpAny_mono (op_in_sign (X := X.wish E) pins s σ H (.str ⟨#[c]⟩) (.str z) _ _ (fun w H' => w = .bl (decide (c ∈ z.cps.toList)) ∧ H' = H) (I.wish E) ⟨t1, rfl⟩ ⟨t2, rfl⟩ ⟨c, z, rfl, rfl, rfl, rfl⟩) (fun w s' ⟨_, _, I', r', q1, q2⟩ => by
          subst q1 q2
          cases r'
          exact h s' I'.unwish) fun _ _ z => z
      · exact wpAny_mono (op_notIn_sign (X := X.wish E) pins s σ H (.str ⟨#[c]⟩) (.str z) _ _ (fun w H' => w = .bl (!decide (c ∈ z.cps.toList)) ∧ H' = H) (I.wish E) ⟨t1, rfl⟩ ⟨t2, rfl⟩ ⟨c, z, rfl, rfl, rfl, rfl⟩) (fun w s' ⟨_, _, I', r', q1, q2⟩ => by
          subst q1 q2
          cases r'
          exact h s' I'.unwish) fun _ _ z => z
    · cases e
      exact gen rfl
  | lst ys => exact seq ys rfl e
  | tup ys => exact seq ys rfl e
  | ext t ys => exact seq ys rfl e
  | lab ys => exact seq ys rfl e
  | ref n =>
    simp only [inD] at e
    cases e1 : isSeq T (.ref n) with
    | some ys => rw [e1] at e; exact seq ys e1 e
    | none =>
      rw [e1] at e
      cases e2 : dictFor T (.ref n) x with
      | none => simp only [e2] at e; cases e
      | some kvs =>
        simp only [e2] at e
        exact dict kvs e2 (Option.some.inj e).symm
  | _ => cases e
theorem op_isin_ok (hu : X.A.units + 64 < cLine) : OpR X (compareOp .In) (rdOp X.K (cmpD .isin)) := by
  intro pins s σ H vx vy v u Q I rv ru h
  obtain ⟨R, T, x, y, d, T', st, rx, ry, e, po⟩ := h
  obtain ⟨b, e1, rfl, rfl⟩ := optB_ok e
  exact (in_ok hu I rv ru st rx ry e1).1 fun s' I' => ⟨.bl b, H, I', rfl, Post.now st po rfl⟩
theorem op_notin_ok (hu : X.A.units + 64 < cLine) : OpR X (compareOp .NotIn) (rdOp X.K (cmpD .notin)) := by
  intro pins s σ H vx vy v u Q I rv ru h
  obtain ⟨R, T, x, y, d, T', st, rx, ry, e, po⟩ := h
  obtain ⟨b, e1, rfl, rfl⟩ := optB_ok e
  obtain ⟨c, e2, rfl⟩ := notO_ok e1
  exact (in_ok hu I rv ru st rx ry e2).2 fun s' I' => ⟨.bl _, H, I', rfl, Post.now st po rfl⟩
def copP : COp → CmpOp
  | .eq => .Eq
  | .ne => .NotEq
  | .lt => .Lt
  | .le => .LtE
  | .gt => .Gt
  | .ge => .GtE
  | .isin => .In
  | .notin => .NotIn
  | .is => .Is
  | .isnot => .IsNot
theorem cmp_ok (hu : X.A.units + 64 < cLine) (op : COp) : OpR X (compareOp (copP op)) (rdOp X.K (cmpD op)) := by
  cases op
  · exact op_eq_ok hu
  · exact op_ne_ok hu
  · exact op_lt_ok hu
  · exact op_le_ok
  · exact op_gt_ok
  · exact op_ge_ok
  · exact op_isin_ok hu
  · exact op_notin_ok hu
  · exact op_is_ok
  · exact op_isnot_ok
end
end Pz

set_option Elab.async false
set_option linter.all false
set_option maxRecDepth 100000
set_option maxHeartbeats 1000000
/-! I3d: places, built-in functions, isinstance. -/
namespace Pz
open PySem PySem.Spec L2
open PyProof.Rows (subscriptTail tail_any)

section
variable {X : Cx}
/-! ### x[i] -/
theorem atI_rep {K : PySem.W.Frag} {R : Rho} {H : Hp} {ds : List D} {vs : List V} {k : Int} {d : D} (r : Reps K R H ds vs) (h : atI ds k = some d) : ∃ v, atI vs k = some v ∧ Rep K R H d v := by
  unfold atI at h ⊢
  rw [r.length]
  cases e : ixN ds.length k with
  | none => rw [e] at h; cases h
  | some j =>
    rw [e] at h
    exact r.get h
theorem ix_ok (hu : X.A.units + 64 < cLine) : IxR X (rdOp X.K idxD) := by
  intro value slice pins s σ H vx vy v u Q I rv ru h hs
  obtain ⟨R, T, x, y, d, T', st, rx, ry, e, po⟩ := h
  have dict : ∀ kvs, dictFor T x y = some kvs → (match dget kvs y with | some d => Res.ok d T | none => .bad) = .ok d T' → wpAny (model X.prog X.w) X.A (subscriptTail value slice v u) (EP X pins σ Q) X.xe s := by
    intro kvs e1 e2
    obtain ⟨a, r, rfl, g, m⟩ := dictFor_at st e1 rx ry
    cases rv
    cases e3 : dget kvs y with
    | none => rw [e3] at e2; cases e2
    | some d' =>
      rw [e3] at e2 m
      cases e2
      obtain ⟨w, rfl, rw'⟩ := m
      exact tail_any (dict_typeIs I g) PySem.F.slot_dict_getitem.lookup (d_getItem (by omega) I g ru fun w' s3 I3 rw3 => ⟨w, H, I3, rw3, Post.now st po rw'⟩) hs
  have seq : ∀ k xs, y = .int k → isSeq T x = some xs → (match atI xs k with | some d => Res.ok d T | none => .bad) = .ok d T' → wpAny (model X.prog X.w) X.A (subscriptTail value slice v u) (EP X pins σ Q) X.xe s := by
    intro k xs ey e1 e2
    subst ey
    obtain ⟨a, vs, rfl, q, r⟩ := isSeq_at st e1 rx
    cases e3 : atI xs k with
    | none => rw [e3] at e2; cases e2
    | some d' =>
      rw [e3] at e2
      cases e2
      obtain ⟨w, e4, rw'⟩ := atI_rep r e3
      refine ix_seq value slice pins s σ H _ vy v u Q I rv ru ?_ hs
      rcases q with q | q
      · exact .inl ⟨a, vs, k, w, rfl, ry, q, e4, Post.now st po rw'⟩
      · exact .inr (.inl ⟨a, vs, k, w, rfl, ry, q, e4, Post.now st po rw'⟩)
  have other : (∀ k, y ≠ .int k) → wpAny (model X.prog X.w) X.A (subscriptTail value slice v u) (EP X pins σ Q) X.xe s := by
    intro hy
    have e' : (match dictFor T x y with
      | some kvs => match dget kvs y with
        | some d => Res.ok d T
        | none => .bad
      | none => .bad) = .ok d T' := by
      cases y <;> first | exact e | exact absurd rfl (hy _)
    cases e1 : dictFor T x y with
    | none => rw [e1] at e'; cases e'
    | some kvs => rw [e1] at e'; exact dict kvs e1 e'
  cases y with
  | int k =>
    cases x with
    | str z =>
      simp only [idxD] at e
      cases e1 : lim z.length with
      | false => rw [e1] at e; cases e
      | true =>
        cases e2 : atI z.cps.toList k with
        | none => rw [e1, e2] at e; cases e
        | some c =>
          rw [e1, e2] at e
          cases e
          exact ix_seq value slice pins s σ H _ vy v u Q I rv ru (.inr (.inr ⟨z, k, c, rx, ry, lim_le e1, e2, Post.now st po rfl⟩)) hs
    | lst xs => exact seq k xs rfl rfl e
    | tup xs => exact seq k xs rfl rfl e
    | ext t xs => exact seq k xs rfl rfl e
    | lab xs => exact seq k xs rfl rfl e
    | ref n =>
      simp only [idxD] at e
      cases e1 : isSeq T (.ref n) with
      | some xs => rw [e1] at e; exact seq k xs rfl e1 e
      | none =>
        rw [e1] at e
        cases e2 : dictFor T (.ref n) (.int k) with
        | none => simp only [e2] at e; cases e
        | some kvs => simp only [e2] at e; exact dict kvs e2 e
    | _ => cases e
  | _ => exact other (fun k q => by cases q)

/-! ### x[lo:hi] -/
def rdSl (K : PySem.W.Frag) (g : D → Option Int → Option Int → M D) : V → Option Int → Option Int → Hp → VK → Prop := fun vx lo hi H Q => ∃ R T x d T', StOk K R T H ∧ Rep K R H x vx ∧ g x lo hi T = .ok d T' ∧ Post K R H d T' Q
theorem cut_rep {K : PySem.W.Frag} {R : Rho} {H : Hp} {ds : List D} {vs : List V} (r : Reps K R H ds vs) (lo hi : Option Int) : Reps K R H (cutD ds lo hi) (cutV vs lo hi) := by
  unfold cutD cutV
  rw [r.length]
  exact (r.drop _).take _
theorem sl_ok : SlR X (rdSl X.K slcD) := by
  intro pins s σ H vx v vl vu lo hi sl Q I rv hs pl pu h
  obtain ⟨R, T, x, d, T', st, rx, e, po⟩ := h
  have lists : ∀ a vs xs, vx = .ref a → SqL X.K H a vs → Reps X.K R H xs vs → Res.ok (D.lst (cutD xs lo hi)) T = .ok d T' →
      ∃ T id, typeLookup (.type T) "__getitem__" = pure (some (.builtin id)) ∧ s.TypeIs v T ∧ wpAny (model X.prog X.w) X.A (getItem v (.ref sl)) (EP X pins σ Q) X.xe s := by
    intro a vs xs ev q r e
    cases e
    exact sl_list pins s σ H vx v vl vu lo hi sl Q I rv hs pl pu ⟨a, vs, ev, q, fun p hp => Post.newLst st po (cut_rep r lo hi) p hp⟩
  cases x with
  | str z =>
    obtain ⟨hl, rfl, rfl⟩ := okIf_ok e
    exact sl_str pins s σ H vx v vl vu lo hi sl Q I rv hs pl pu ⟨z, rx, lim_le hl, Post.now st po rfl⟩
  | tup xs =>
    cases e
    obtain ⟨a, vs, rfl, t, r⟩ := id rx
    refine sl_tupA pins s σ H _ v vl vu lo hi sl Q I rv hs pl pu ⟨a, vs, rfl, t.sqT, fun hw => ?_, fun _ p hp => Post.newTup st po (cut_rep r lo hi) p hp⟩
    have : cutD xs lo hi = xs := by
      unfold cutD
      rw [r.length] at hw
      rw [hw.1, hw.2]
      simp
    rw [this] at po
    exact Post.now st po rx
  | lab xs =>
    obtain ⟨hl, rfl, rfl⟩ := okIf_ok e
    obtain ⟨a, vs, rfl, t, r⟩ := id rx
    refine sl_tup pins s σ H _ v vl vu lo hi sl Q I rv hs pl pu ⟨a, vs, rfl, t.sqT, fun hw => ?_, fun p hp => Post.newTup st po (cut_rep r lo hi) p hp⟩
    rw [r.length] at hw
    rw [hw.1, hw.2] at hl
    simp at hl
  | ext t xs =>
    cases t with
    | true => cases e
    | false =>
      obtain ⟨a, vs, rfl, q, r⟩ := rx
      exact lists a vs xs rfl q.2 r e
  | lst xs =>
    obtain ⟨a, vs, rfl, q, r⟩ := rx
    exact lists a vs xs rfl (SqL.of q.2) r e
  | ref n =>
    simp only [slcD] at e
    cases e1 : isList T (.ref n) with
    | none => rw [e1] at e; cases e
    | some xs =>
      rw [e1] at e
      obtain ⟨a, vs, rfl, q, r⟩ := isList_at st e1 rx
      exact lists a vs xs rfl (SqL.of q) r e
  | _ => cases e

/-! ### built-in functions -/
theorem len1 {K : PySem.W.Frag} {R : Rho} {H : Hp} {x : D} {vs : List V} (r : Reps K R H [x] vs) : ∃ v, vs = [v] ∧ Rep K R H x v := by
  obtain ⟨v, r', rfl, h1, h2⟩ := r
  cases h2
  exact ⟨v, rfl, h1⟩
theorem len2 {K : PySem.W.Frag} {R : Rho} {H : Hp} {x y : D} {vs : List V} (r : Reps K R H [x, y] vs) : ∃ v w, vs = [v, w] ∧ Rep K R H x v ∧ Rep K R H y w := by
  obtain ⟨v, r', rfl, h1, h2⟩ := r
  obtain ⟨w, rfl, h3⟩ := len1 h2
  exact ⟨v, w, rfl, h1, h3⟩
theorem cl1 {f : Value} {b : Blt} (h : ∀ (pins : List (Addr × Obj)) (s : Shared) (σ : L2.St) (H : Hp) (v : V) (us : List Value) (Q : VK) (R : Rho) (T T' : Store) (x d : D), Inv X pins σ H s → Vals [v] us → StOk X.K R T H → Rep X.K R H x v → blt1 b x T = .ok d T' → Post X.K R H d T' Q →
    wpAny (model X.prog X.w) X.A (call f us) (EP X pins σ Q) X.xe s) (h2 : ∀ x y T, blt2 b x y T = .bad) : CallR X f (rdCl X.K (bltD b)) := by
  intro pins s σ H vs us Q I r hh
  obtain ⟨R, T, xs, d, T', st, rx, e, po⟩ := hh
  cases xs with
  | nil => cases e
  | cons x xs =>
    cases xs with
    | nil =>
      obtain ⟨v, rfl, r1⟩ := len1 rx
      exact h pins s σ H v us Q R T T' x d I r st r1 e po
    | cons y xs =>
      cases xs with
      | nil =>
        have e2 : blt2 b x y T = .ok d T' := e
        rw [h2] at e2
        cases e2
      | cons z zs => cases e
theorem cl2 {f : Value} {b : Blt} (h : ∀ (pins : List (Addr × Obj)) (s : Shared) (σ : L2.St) (H : Hp) (v w : V) (us : List Value) (Q : VK) (R : Rho) (T T' : Store) (x y d : D), Inv X pins σ H s → Vals [v, w] us → StOk X.K R T H → Rep X.K R H x v → Rep X.K R H y w → blt2 b x y T = .ok d T' → Post X.K R H d T' Q →
    wpAny (model X.prog X.w) X.A (call f us) (EP X pins σ Q) X.xe s) (h2 : ∀ x T, blt1 b x T = .bad) : CallR X f (rdCl X.K (bltD b)) := by
  intro pins s σ H vs us Q I r hh
  obtain ⟨R, T, xs, d, T', st, rx, e, po⟩ := hh
  cases xs with
  | nil => cases e
  | cons x xs =>
    cases xs with
    | nil =>
      have e2 : blt1 b x T = .ok d T' := e
      rw [h2] at e2
      cases e2
    | cons y xs =>
      cases xs with
      | nil =>
        obtain ⟨v, w, rfl, r1, r2⟩ := len2 rx
        exact h pins s σ H v w us Q R T T' x y d I r st r1 r2 e po
      | cons z zs => cases e
theorem no2 {b : Blt} (h : b ≠ .max2) (h' : b ≠ .min2) (x y : D) (T : Store) : blt2 b x y T = .bad := by
  cases b <;> first | rfl | exact absurd rfl h | exact absurd rfl h'
theorem withL_ok {T T' : Store} {x d : D} {f : List D → Res D} (h : withL T x f = .ok d T') : ∃ xs, isList T x = some xs ∧ f xs = .ok d T' := by
  unfold withL at h
  cases e : isList T x with
  | none => rw [e] at h; cases h
  | some xs => rw [e] at h; exact ⟨xs, rfl, h⟩
theorem withI_ok {T' : Store} {xs : List D} {d : D} {f : List Int → Res D} (h : withI xs f = .ok d T') : ∃ is, intsD xs = some is ∧ f is = .ok d T' := by
  unfold withI at h
  cases e : intsD xs with
  | none => rw [e] at h; cases h
  | some xs => rw [e] at h; exact ⟨xs, rfl, h⟩
theorem withB_ok {T' : Store} {xs : List D} {d : D} {f : List Bool → Res D} (h : withB xs f = .ok d T') : ∃ is, boolsD xs = some is ∧ f is = .ok d T' := by
  unfold withB at h
  cases e : boolsD xs with
  | none => rw [e] at h; cases h
  | some xs => rw [e] at h; exact ⟨xs, rfl, h⟩
theorem cl_len : CallR X (.builtin "len") (rdCl X.K (bltD .len)) := by
  refine cl1 (fun pins s σ H v us Q R T T' x d I r st rx e po => ?_) (no2 (by decide) (by decide))
  have seq : ∀ ys, isSeq T x = some ys → Res.ok (D.int ys.length) T = .ok d T' → wpAny (model X.prog X.w) X.A (call (.builtin "len") us) (EP X pins σ Q) X.xe s := by
    intro ys e1 e2
    cases e2
    obtain ⟨a, vs, rfl, q, rs⟩ := isSeq_at st e1 rx
    rw [← rs.length] at po
    refine call_len pins s σ H _ us Q I r ⟨_, vs.length, rfl, ?_, Post.now st po rfl⟩
    rcases q with q | q
    · exact .inl ⟨vs, q, rfl⟩
    · exact .inr ⟨vs, q, rfl⟩
  have e : lenD T x = .ok d T' := e
  cases x with
  | str z =>
    obtain ⟨hl, rfl, rfl⟩ := okIf_ok e
    cases rx
    exact call_len pins s σ H _ us Q I r ⟨_, z.length, rfl, ⟨lim_le hl, rfl⟩, Post.now st po rfl⟩
  | lst ys => exact seq ys rfl e
  | tup ys => exact seq ys rfl e
  | ext t ys => exact seq ys rfl e
  | lab ys => exact seq ys rfl e
  | ref n =>
    simp only [lenD] at e
    cases e1 : isSeq T (.ref n) with
    | none => rw [e1] at e; cases e
    | some ys => rw [e1] at e; exact seq ys e1 e
  | _ => cases e
theorem cl_abs : CallR X (.builtin "abs") (rdCl X.K (bltD .abs)) := by
  refine cl1 (fun pins s σ H v us Q R T T' x d I r st rx e po => ?_) (no2 (by decide) (by decide))
  have e : absD T x = .ok d T' := e
  cases x <;> first | (cases e; done) | skip
  cases rx
  cases e
  exact call_abs pins s σ H _ us Q I r ⟨_, rfl, Post.now st po rfl⟩
theorem cl_int : CallR X (.type "int") (rdCl X.K (bltD .int)) := by
  refine cl1 (fun pins s σ H v us Q R T T' x d I r st rx e po => ?_) (no2 (by decide) (by decide))
  have e : intD T x = .ok d T' := e
  cases x <;> first | (cases e; done) | skip
  · cases rx
    cases e
    exact call_int1 pins s σ H _ us Q I r (.inr ⟨_, rfl, Post.now st po rfl⟩)
  · cases rx
    cases e
    exact call_int1 pins s σ H _ us Q I r (.inl ⟨_, rfl, Post.now st po rfl⟩)
theorem bools_of {K : PySem.W.Frag} {R : Rho} {T : Store} {H : Hp} {x : D} {v : V} {ys : List D} {bs : List Bool} (st : StOk K R T H) (e1 : isList T x = some ys) (e2 : boolsD ys = some bs) (rx : Rep K R H x v) : ∃ a, v = .ref a ∧ SqL K H a (bs.map V.bl) := by
  obtain ⟨a, vs, rfl, q, r⟩ := isList_at st e1 rx
  rw [Reps.boolsOf e2 r] at q
  exact ⟨a, rfl, SqL.of q⟩
theorem ints_of {K : PySem.W.Frag} {R : Rho} {T : Store} {H : Hp} {x : D} {v : V} {ys : List D} {bs : List Int} (st : StOk K R T H) (e1 : isList T x = some ys) (e2 : intsD ys = some bs) (rx : Rep K R H x v) : ∃ a, v = .ref a ∧ SqL K H a (bs.map V.int) := by
  obtain ⟨a, vs, rfl, q, r⟩ := isList_at st e1 rx
  rw [Reps.intsOf e2 r] at q
  exact ⟨a, rfl, SqL.of q⟩
theorem cl_all (hc : X.calm = true) : CallR X (.builtin "all") (rdCl X.K (bltD .all)) := by
  refine cl1 (fun pins s σ H v us Q R T T' x d I r st rx e po => ?_) (no2 (by decide) (by decide))
  obtain ⟨ys, e1, e⟩ := withL_ok e
  obtain ⟨bs, e2, e⟩ := withB_ok e
  cases e
  obtain ⟨a, rfl, q⟩ := bools_of st e1 e2 rx
  exact cr_all hc pins s σ H _ us Q I r ⟨a, bs, rfl, q, Post.now st po rfl⟩
theorem cl_any (hc : X.calm = true) : CallR X (.builtin "any") (rdCl X.K (bltD .any)) := by
  refine cl1 (fun pins s σ H v us Q R T T' x d I r st rx e po => ?_) (no2 (by decide) (by decide))
  obtain ⟨ys, e1, e⟩ := withL_ok e
  obtain ⟨bs, e2, e⟩ := withB_ok e
  cases e
  obtain ⟨a, rfl, q⟩ := bools_of st e1 e2 rx
  exact cr_any hc pins s σ H _ us Q I r ⟨a, bs, rfl, q, Post.now st po rfl⟩
theorem cl_sum (hc : X.calm = true) : CallR X (.builtin "sum") (rdCl X.K (bltD .sum)) := by
  refine cl1 (fun pins s σ H v us Q R T T' x d I r st rx e po => ?_) (no2 (by decide) (by decide))
  obtain ⟨ys, e1, e⟩ := withL_ok e
  obtain ⟨bs, e2, e⟩ := withI_ok e
  cases e
  obtain ⟨a, rfl, q⟩ := ints_of st e1 e2 rx
  exact cr_sum hc pins s σ H _ us Q I r ⟨a, bs, rfl, q, Post.now st po rfl⟩
theorem maxI_is : ∀ (l : List Int) (m : Int), maxI m l ∈ m :: l ∧ ∀ y ∈ m :: l, y ≤ maxI m l
  | [], m => ⟨by simp [maxI], fun y h => by simp at h; subst h; exact Int.le_refl _⟩
  | x :: l, m => by
    have ih := maxI_is l (if m < x then x else m)
    unfold maxI
    refine ⟨?_, fun y h => ?_⟩
    · have h1 := ih.1
      split at h1 <;> simp at h1 ⊢ <;> rcases h1 with h1 | h1 <;> simp [*]
    · have h2 := ih.2 (if m < x then x else m) (by simp)
      rcases List.mem_cons.mp h with rfl | h
      · split at h2 <;> split <;> omega
      · rcases List.mem_cons.mp h with rfl | h
        · split at h2 <;> split <;> omega
        · exact ih.2 y (List.mem_cons_of_mem _ h)
theorem minI_is : ∀ (l : List Int) (m : Int), minI m l ∈ m :: l ∧ ∀ y ∈ m :: l, minI m l ≤ y
  | [], m => ⟨by simp [minI], fun y h => by simp at h; subst h; exact Int.le_refl _⟩
  | x :: l, m => by
    have ih := minI_is l (if x < m then x else m)
    unfold minI
    refine ⟨?_, fun y h => ?_⟩
    · have h1 := ih.1
      split at h1 <;> simp at h1 ⊢ <;> rcases h1 with h1 | h1 <;> simp [*]
    · have h2 := ih.2 (if x < m then x else m) (by simp)
      rcases List.mem_cons.mp h with rfl | h
      · split at h2 <;> split <;> omega
      · rcases List.mem_cons.mp h with rfl | h
        · split at h2 <;> split <;> omega
        · exact ih.2 y (List.mem_cons_of_mem _ h)
theorem cl_max1 (hc : X.calm = true) : CallR X (.builtin "max") (rdCl X.K (bltD .max1)) := by
  refine cl1 (fun pins s σ H v us Q R T T' x d I r st rx e po => ?_) (no2 (by decide) (by decide))
  obtain ⟨ys, e1, e⟩ := withL_ok e
  obtain ⟨bs, e2, e⟩ := withI_ok e
  cases bs with
  | nil => cases e
  | cons b bs =>
    cases e
    obtain ⟨a, rfl, q⟩ := ints_of st e1 e2 rx
    refine cr_max hc pins s σ H _ us Q I r ⟨a, b :: bs, rfl, q, by simp, fun m hm hle => ?_⟩
    obtain ⟨h1, h2⟩ := maxI_is bs b
    have : m = maxI b bs := Int.le_antisymm (h2 m hm) (hle _ h1)
    rw [this]
    exact Post.now st po rfl
theorem cl_min1 (hc : X.calm = true) : CallR X (.builtin "min") (rdCl X.K (bltD .min1)) := by
  refine cl1 (fun pins s σ H v us Q R T T' x d I r st rx e po => ?_) (no2 (by decide) (by decide))
  obtain ⟨ys, e1, e⟩ := withL_ok e
  obtain ⟨bs, e2, e⟩ := withI_ok e
  cases bs with
  | nil => cases e
  | cons b bs =>
    cases e
    obtain ⟨a, rfl, q⟩ := ints_of st e1 e2 rx
    refine cr_min hc pins s σ H _ us Q I r ⟨a, b :: bs, rfl, q, by simp, fun m hm hle => ?_⟩
    obtain ⟨h1, h2⟩ := minI_is bs b
    have : m = minI b bs := Int.le_antisymm (hle _ h1) (h2 m hm)
    rw [this]
    exact Post.now st po rfl
theorem cl_max2 (hc : X.calm = true) : CallR X (.builtin "max") (rdCl X.K (bltD .max2)) := by
  refine cl2 (fun pins s σ H v w us Q R T T' x y d I r st rx ry e po => ?_) (fun _ _ => rfl)
  cases x <;> first | (cases e; done) | skip
  cases y <;> first | (cases e; done) | skip
  cases rx
  cases ry
  cases e
  exact call_max2 hc pins s σ H _ us Q I r ⟨_, _, rfl, Post.now st po rfl⟩
theorem cl_min2 (hc : X.calm = true) : CallR X (.builtin "min") (rdCl X.K (bltD .min2)) := by
  refine cl2 (fun pins s σ H v w us Q R T T' x y d I r st rx ry e po => ?_) (fun _ _ => rfl)
  cases x <;> first | (cases e; done) | skip
  cases y <;> first | (cases e; done) | skip
  cases rx
  cases ry
  cases e
  exact call_min2 hc pins s σ H _ us Q I r ⟨_, _, rfl, Post.now st po rfl⟩
theorem cl_tuple : CallR X (.type "tuple") (rdCl X.K (bltD .tuple)) := by
  refine cl1 (fun pins s σ H v us Q R T T' x d I r st rx e po => ?_) (no2 (by decide) (by decide))
  have e : (match isSeqT T x with
    | some xs => Res.ok (D.tup xs) T
    | none => .bad) = .ok d T' := e
  have lists : ∀ ys, isList T x = some ys → Res.ok (D.tup ys) T = .ok d T' → wpAny (model X.prog X.w) X.A (call (.type "tuple") us) (EP X pins σ Q) X.xe s := by
    intro ys e1 e
    cases e
    obtain ⟨a, vs, rfl, t, q⟩ := isList_at st e1 rx
    exact call_tuple_of pins s σ H _ us Q I r ⟨a, vs, rfl, .inl ⟨SqL.of t, fun l hl => Post.newTup st po q l hl⟩⟩
  cases x with
  | tup ys =>
    cases e
    obtain ⟨a, vs, rfl, t, q⟩ := id rx
    exact call_tuple_of pins s σ H _ us Q I r ⟨a, vs, rfl, .inr ⟨t.sqT, Post.now st po rx⟩⟩
  | lst ys => exact lists ys rfl e
  | ext t ys =>
    cases t with
    | true => cases e
    | false =>
      cases e
      obtain ⟨a, vs, rfl, t, q⟩ := rx
      exact call_tuple_of pins s σ H _ us Q I r ⟨a, vs, rfl, .inl ⟨t.2, fun l hl => Post.newTup st po q l hl⟩⟩
  | ref n =>
    have e1 : isSeqT T (.ref n) = isList T (.ref n) := rfl
    rw [e1] at e
    cases e2 : isList T (.ref n) with
    | none => rw [e2] at e; cases e
    | some ys => rw [e2] at e; exact lists ys e2 e
  | _ => cases e
theorem cl_list : CallR X (.type "list") (rdCl X.K (bltD .list)) := by
  refine cl1 (fun pins s σ H v us Q R T T' x d I r st rx e po => ?_) (no2 (by decide) (by decide))
  have e : (match isSeq T x with
    | some xs => Res.ok (D.lst xs) T
    | none => .bad) = .ok d T' := e
  cases e1 : isSeq T x with
  | none => rw [e1] at e; cases e
  | some ys =>
    rw [e1] at e
    cases e
    obtain ⟨a, vs, rfl, q, r'⟩ := isSeq_at st e1 rx
    exact call_list_of pins s σ H _ us Q I r ⟨a, vs, rfl, q, fun l hl => Post.newLst st po r' l hl⟩
theorem cl_str : CallR X (.type "str") (rdCl X.K (bltD .str)) := by
  refine cl1 (fun pins s σ H v us Q R T T' x d I r st rx e po => ?_) (no2 (by decide) (by decide))
  have e : strD T x = .ok d T' := e
  cases x <;> first | (cases e; done) | skip
  cases rx
  obtain ⟨hl, rfl, rfl⟩ := okIf_ok e
  exact call_str_int pins s σ H _ us Q I r ⟨_, rfl, blt_lt hl, Post.now st po rfl⟩
end
end Pz

set_option Elab.async false
set_option linter.all false
set_option maxRecDepth 100000
set_option maxHeartbeats 1000000
/-! I4: isinstance, methods, stores by values; the rules put together. -/
namespace Pz
open PySem PySem.Spec L2

section
variable {X : Cx}
/-! ### isinstance -/
def tyS : Ty → String
  | .int => "int"
  | .bool => "bool"
  | .str => "str"
  | .list => "list"
  | .tuple => "tuple"
def bltTys : List String := ["NoneType", "bool", "int", "str", "tuple", "list"]
theorem ty_of {K : PySem.W.Frag} {R : Rho} {T : Store} {H : Hp} {x : D} {v : V} (st : StOk K R T H) (rx : Rep K R H x v) (h : tyD T x .int ≠ none) : ∃ n, TyX K H v (.type n) ∧ (∀ t b, tyD T x t = some b → PySem.W.kitOne K (.type n) (.type (tyS t)) = some b) ∧ n ∈ bltTys := by
  cases x with
  | non => cases rx; exact ⟨"NoneType", .base .non, fun t b e => by cases t <;> cases e <;> exact kit_ty (by decide +kernel), by decide⟩
  | bl c => cases rx; exact ⟨"bool", .base (.bl c), fun t b e => by cases t <;> cases e <;> exact kit_ty (by decide +kernel), by decide⟩
  | int c => cases rx; exact ⟨"int", .base (.int c), fun t b e => by cases t <;> cases e <;> exact kit_ty (by decide +kernel), by decide⟩
  | str c => cases rx; exact ⟨"str", .base (.str c), fun t b e => by cases t <;> cases e <;> exact kit_ty (by decide +kernel), by decide⟩
  | tup ds => obtain ⟨a, vs, rfl, t, _⟩ := rx; exact ⟨"tuple", .base (.tup t.2), fun t b e => by cases t <;> cases e <;> exact kit_ty (by decide +kernel), by decide⟩
  | lst ds => obtain ⟨a, vs, rfl, t, _⟩ := rx; exact ⟨"list", .base (.lst t.2), fun t b e => by cases t <;> cases e <;> exact kit_ty (by decide +kernel), by decide⟩
  | ext t ds =>
    cases t with
    | false => exact absurd rfl h
    | true =>
      obtain ⟨a, vs, rfl, t, _⟩ := rx
      rcases (show SqT K (fun _ => none) a vs from t) with (t | ⟨o, t⟩) | ⟨o, its, n, e, c, _⟩
      · cases t
      · cases t
      · exact ⟨"tuple", .kTuple e c, fun t b e => by cases t <;> cases e <;> exact kit_ty (by decide +kernel), by decide⟩
  | obj c ns ds => exact absurd rfl h
  | lab ds => obtain ⟨a, vs, rfl, ⟨_, o, e, _⟩, _⟩ := rx; exact ⟨"tuple", .fTuple e, fun t b e => by cases t <;> cases e <;> exact kit_ty (by decide +kernel), by decide⟩
  | ref n =>
    cases e : isList T (.ref n) with
    | none =>
      exfalso
      apply h
      simp only [tyD]
      simp only [isList] at e
      split <;> simp_all
    | some ds =>
      obtain ⟨a, vs, rfl, q, _⟩ := isList_at st e rx
      refine ⟨"list", .base (.lst q), fun t b e2 => ?_, by decide⟩
      simp only [tyD] at e2
      simp only [isList] at e
      split at e2
      · cases t <;> cases e2 <;> exact kit_ty (by decide +kernel)
      · cases e2
theorem isi_go {K : PySem.W.Frag} {T : Store} {x : D} {n : String} (hk : ∀ t b, tyD T x t = some b → PySem.W.kitOne K (.type n) (.type (tyS t)) = some b) : ∀ (ts : List Ty) (b : Bool), isiD.go x T ts = some b → PySem.W.kitAny K (.type n) (ts.map fun t => Value.type (tyS t)) = some b
  | [], b, h => by cases h; rfl
  | t :: ts, b, h => by
    unfold isiD.go at h
    cases e1 : tyD T x t with
    | none => rw [e1] at h; cases h
    | some c =>
      cases e2 : isiD.go x T ts with
      | none => rw [e1, e2] at h; cases h
      | some c' =>
        rw [e1, e2] at h
        cases h
        have ih := isi_go hk ts c' e2
        rw [List.map_cons]
        unfold PySem.W.kitAny
        rw [hk t c e1]
        cases c with
        | true => rfl
        | false => exact ih
theorem tys_paired : ∀ ts : List Ty, Paired ClsV (ts.map fun t => V.ty (tyS t)) (ts.map fun t => Value.type (tyS t))
  | [] => .nil
  | t :: ts => .cons (.ty _) (tys_paired ts)
/-- some type of it is told -/
theorem tyD_int {T : Store} {x : D} {t : Ty} {b : Bool} (h : tyD T x t = some b) : tyD T x .int ≠ none := by
  intro hn
  cases x <;> first | (cases hn; done) | (cases h; done) | skip
  · rename_i t' xs
    cases t' <;> first | (cases hn; done) | (cases h; done)
  · simp only [tyD] at hn h
    split at hn <;> simp_all
theorem isi_some {T : Store} {x : D} : ∀ {ts : List Ty} {b : Bool}, ts ≠ [] → isiD.go x T ts = some b → tyD T x .int ≠ none := by
  intro ts b hne h
  cases ts with
  | nil => exact absurd rfl hne
  | cons t ts =>
    unfold isiD.go at h
    cases e1 : tyD T x t with
    | none => rw [e1] at h; cases h
    | some c => exact tyD_int e1

/-! ### xs.m(..) -/
/-- the built-in class whose method it is -/
def mtT : Mt → String
  | .append => "list"
  | .count => "list"
  | .get => "dict"
  | .join => "str"
  | .split => "str"
  | .pop => "list"
  | .remove => "list"
  | .index => "list"
  | .extend => "list"
  | .tindex => "tuple"
theorem isTupS_at {K : PySem.W.Frag} {R : Rho} {T : Store} {H : Hp} {x : D} {v : V} {ds : List D} (h : isTupS T x = some ds) (r : Rep K R H x v) : ∃ a vs, v = .ref a ∧ SqT K H a vs ∧ Reps K R H ds vs := by
  cases x with
  | tup xs =>
    cases h
    obtain ⟨a, vs, e, q, q2⟩ := r
    exact ⟨a, vs, e, q.sqT, q2⟩
  | ext t xs =>
    cases t with
    | false => cases h
    | true =>
      cases h
      obtain ⟨a, vs, e, q, q2⟩ := r
      refine ⟨a, vs, e, ?_, q2⟩
      rcases (show SqT K (fun _ => none) a vs from q) with (q | ⟨o, q⟩) | q
      · cases q
      · cases q
      · exact .inr q
  | lab xs =>
    cases h
    obtain ⟨a, vs, e, q, q2⟩ := r
    exact ⟨a, vs, e, q.sqT, q2⟩
  | _ => cases h
theorem tyOk_v {K : PySem.W.Frag} {R : Rho} {T : Store} {H : Hp} {m : Mt} {x : D} {v : V} (hm : m ≠ .tindex) (st : StOk K R T H) (h : tyOk m x T = true) (rx : Rep K R H x v) : tyV K (mtT m) v H := by
  have lst : (isList T x).isSome = true → tyV K "list" v H := by
    intro h
    obtain ⟨ds, e⟩ := Option.isSome_iff_exists.mp h
    obtain ⟨a, vs, rfl, q, _⟩ := isList_at st e rx
    exact .inl ⟨rfl, vs, SqL.of q⟩
  cases m with
  | append => exact lst h
  | count => exact lst h
  | pop => exact lst h
  | remove => exact lst h
  | index => exact lst h
  | extend => exact lst h
  | tindex => exact absurd rfl hm
  | join => cases x <;> first | (cases h; done) | skip; cases rx; rfl
  | split => cases x <;> first | (cases h; done) | skip; cases rx; rfl
  | get =>
    cases x <;> first | (cases h; done) | skip
    rename_i n
    obtain ⟨a, rfl, c⟩ := rx
    simp only [tyOk] at h
    cases e : T[n]? with
    | none => rw [e] at h; cases h
    | some cl =>
      rw [e] at h
      cases cl with
      | dic t kvs =>
        obtain ⟨hc, _⟩ := st.cell n a _ c e rfl
        cases t with
        | false => obtain ⟨ks, q, _⟩ := hc; exact .inr (.inr (.inl ⟨rfl, .inl ⟨ks, q⟩⟩))
        | true => obtain ⟨ks, q, _⟩ := hc; exact .inr (.inr (.inl ⟨rfl, .inr ⟨ks, q⟩⟩))
      | _ => cases h
def rdMt (K : PySem.W.Frag) (g : D → List D → M D) : V → List V → Hp → VK → Prop := fun vx vs H Q => ∃ R T x xs d T', StOk K R T H ∧ Rep K R H x vx ∧ Reps K R H xs vs ∧ g x xs T = .ok d T' ∧ Post K R H d T' Q
/-- a cell of a list is written -/
theorem Post.wrote {K : PySem.W.Frag} {R : Rho} {T : Store} {H : Hp} {n : Nat} {a : Addr} {ds ys : List D} {us : List V} {d : D} {Q : VK} {v : V} (st : StOk K R T H) (c : R.cell[n]? = some a) (e : T[n]? = some (.lst ds)) (po : Post K R H d (T.set n (.lst ys)) Q)
    (r : ∀ R', Le R H R' (upd H a (.lst us)) → Reps K R' (upd H a (.lst us)) ys us) (rd : ∀ R' H', Rep K R' H' d v) : Q v (upd H a (.lst us)) := by
  obtain ⟨l, s⟩ := st.write (o := .lst us) (c := .lst ys) c e rfl fun R' l => ⟨us, upd_same, r R' l⟩
  exact po _ _ _ l s (rd _ _)
theorem mt_append_ok : MtR X "list.append" (rdMt X.K (mthD .append)) := by
  intro pins s σ H vx vs v us Q I rv rvs h
  obtain ⟨R, T, x, xs, d, T', st, rx, rxs, e, po⟩ := h
  replace e : appD x xs T = .ok d T' := e
  unfold appD at e
  split at e
  · rename_i n y
    split at e
    · rename_i ys e1
      obtain ⟨hl, rfl, rfl⟩ := okIf_ok e
      obtain ⟨a, rfl, c⟩ := id rx
      obtain ⟨w, rfl, r1⟩ := len1 rxs
      obtain ⟨⟨ws, q, rs⟩, _⟩ := st.cell n a _ c e1 rfl
      refine mt_append pins s σ H _ _ v us Q I rv rvs ⟨a, ws, w, rfl, rfl, q, ?_, ?_⟩
      · rw [rs.length]; exact blt_lt hl
      · exact Post.wrote st c e1 po (fun R' l => (Reps.mono l _ _ rs).append (Reps.one (Rep.mono l _ _ r1))) fun _ _ => rfl
    · cases e
  · cases e
theorem Reps.eraseIdx {K : PySem.W.Frag} {R : Rho} {H : Hp} : ∀ {ds : List D} {vs : List V} (n : Nat), Reps K R H ds vs → Reps K R H (ds.eraseIdx n) (vs.eraseIdx n)
  | [], vs, n, h => by cases h; exact rfl
  | d :: ds, vs, 0, h => by
    obtain ⟨v, r, rfl, _, h2⟩ := h
    exact h2
  | d :: ds, vs, n + 1, h => by
    obtain ⟨v, r, rfl, h1, h2⟩ := h
    exact ⟨v, _, rfl, h1, Reps.eraseIdx n h2⟩
theorem mt_pop_ok : MtR X "list.pop" (rdMt X.K (mthD .pop)) := by
  intro pins s σ H vx vs v us Q I rv rvs h
  obtain ⟨R, T, x, xs, d, T', st, rx, rxs, e, po⟩ := h
  replace e : popD x xs T = .ok d T' := e
  unfold popD at e
  split at e
  · rename_i n i
    split at e
    · rename_i ys e1
      split at e
      · rename_i y hb hy
        cases e
        simp only [Bool.and_eq_true, decide_eq_true_eq] at hb
        obtain ⟨a, rfl, c⟩ := id rx
        obtain ⟨w, rfl, r1⟩ := len1 rxs
        obtain ⟨⟨ws, q, rs⟩, _⟩ := st.cell n a _ c e1 rfl
        obtain ⟨u, hu, ru⟩ := rs.get hy
        have hlt : i.toNat < ws.length := (List.getElem?_eq_some_iff.mp hu).1
        obtain ⟨l, s'⟩ := st.write (o := .lst (ws.eraseIdx i.toNat)) (c := .lst (ys.eraseIdx i.toNat)) c e1 rfl fun R' l => ⟨_, upd_same, (Reps.mono l _ _ rs).eraseIdx _⟩
        refine mt_popAt pins s σ H _ _ v us Q I rv rvs ⟨a, ws, i, i.toNat, u, rfl, by rw [show w = V.int i from r1], q, by omega, by omega, ?_, hu, ?_⟩
        · unfold seqIndex?
          have h1 : ¬ i < 0 := by omega
          have h2 : i < (ws.length : Int) := by omega
          simp [h1, h2, hb.1]
        · exact po _ _ _ l s' (Rep.mono l _ _ ru)
      · cases e
    · cases e
  · cases e
theorem idxS_ok {z : Str} : ∀ {ys : List Str} {k j : Nat}, idxS z k ys = some j → k ≤ j ∧ ys[j - k]? = some z ∧ ∀ m, m < j - k → ys[m]? ≠ some z
  | [], k, j, h => by cases h
  | y :: ys, k, j, h => by
    unfold idxS at h
    split at h
    · rename_i e
      cases h
      refine ⟨Nat.le_refl _, ?_, fun m hm => by omega⟩
      rw [Nat.sub_self, List.getElem?_cons_zero]
      have := beqN_eq _ _ e
      cases y; cases z
      simp only [Option.some.injEq, Str.mk.injEq]
      exact Array.toList_inj.mp this
    · rename_i e
      obtain ⟨h1, h2, h3⟩ := idxS_ok h
      have hj : j - k = (j - (k + 1)) + 1 := by omega
      refine ⟨by omega, by rw [hj, List.getElem?_cons_succ]; exact h2, fun m hm => ?_⟩
      cases m with
      | zero =>
        rw [List.getElem?_cons_zero]
        intro q
        cases q
        rw [show beqS z z = true from beqN_rfl _] at e
        cases e
      | succ m =>
        rw [List.getElem?_cons_succ]
        exact h3 m (by omega)
theorem mt_tindex_ok : MtR X "tuple.index" (rdMt X.K (mthD .tindex)) := by
  intro pins s σ H vx vs v us Q I rv rvs h
  obtain ⟨R, T, x, xs, d, T', st, rx, rxs, e, po⟩ := h
  replace e : tindexD x xs T = .ok d T' := e
  unfold tindexD at e
  split at e
  · rename_i ys z
    split at e
    · rename_i zs e2
      split at e
      · rename_i j e3
        cases e
        obtain ⟨w, rfl, r1⟩ := len1 rxs
        obtain ⟨p, ws, rfl, q, rs⟩ := rx
        have q' : SqT X.K H p ws := q.sqT
        rw [Reps.strsOf e2 rs] at q'
        obtain ⟨_, i1, i2⟩ := idxS_ok e3
        rw [Nat.sub_zero] at i1 i2
        exact mt_tup_index pins s σ H _ _ v us Q I rv rvs ⟨p, zs, z, j, rfl, by rw [show w = V.str z from r1], q', i1, i2, Post.now st po rfl⟩
      · cases e
    · cases e
  · cases e
theorem mt_extend_ok : MtR X "list.extend" (rdMt X.K (mthD .extend)) := by
  intro pins s σ H vx vs v us Q I rv rvs h
  obtain ⟨R, T, x, xs, d, T', st, rx, rxs, e, po⟩ := h
  replace e : extendD x xs T = .ok d T' := e
  unfold extendD at e
  split at e
  · rename_i n y
    split at e
    · rename_i ys e1
      split at e
      · rename_i zs
        obtain ⟨hl, rfl, rfl⟩ := okIf_ok e
        obtain ⟨a, rfl, c⟩ := id rx
        obtain ⟨w, rfl, r1⟩ := len1 rxs
        obtain ⟨b, bs, rfl, ⟨_, q2⟩, r2⟩ := r1
        obtain ⟨⟨ws, q, rs⟩, _⟩ := st.cell n a _ c e1 rfl
        refine mt_extend pins s σ H _ _ v us Q I rv rvs ⟨a, b, ws, bs, rfl, rfl, q, q2, ?_, ?_⟩
        · rw [rs.length, r2.length]; exact lim_le hl
        · exact Post.wrote st c e1 po (fun R' l => (Reps.mono l _ _ rs).append (Reps.mono l _ _ r2)) fun _ _ => rfl
      · cases e
    · cases e
  · cases e
theorem mt_join_ok : MtR X "str.join" (rdMt X.K (mthD .join)) := by
  intro pins s σ H vx vs v us Q I rv rvs h
  obtain ⟨R, T, x, xs, d, T', st, rx, rxs, e, po⟩ := h
  replace e : joinD x xs T = .ok d T' := e
  unfold joinD at e
  split at e
  · rename_i a y
    split at e
    · rename_i ys e1
      split at e
      · rename_i zs e2
        obtain ⟨hl, rfl, rfl⟩ := okIf_ok e
        obtain ⟨w, rfl, r1⟩ := len1 rxs
        obtain ⟨p, ws, rfl, q, rs⟩ := isSeq_at st e1 r1
        rw [Reps.strsOf e2 rs] at q
        exact mt_join pins s σ H _ _ v us Q I rv rvs ⟨a, p, zs, rx, rfl, q, Nat.le_of_ble_eq_true hl, Post.now st po rfl⟩
      · cases e
    · cases e
  · cases e
theorem mt_split_ok : MtR X "str.split" (rdMt X.K (mthD .split)) := by
  intro pins s σ H vx vs v us Q I rv rvs h
  obtain ⟨R, T, x, xs, d, T', st, rx, rxs, e, po⟩ := h
  replace e : splitD x xs T = .ok d T' := e
  unfold splitD at e
  split at e
  · rename_i a b
    obtain ⟨hl, rfl, rfl⟩ := okIf_ok e
    rw [Bool.and_eq_true] at hl
    obtain ⟨w, rfl, r1⟩ := len1 rxs
    cases r1
    exact mt_split pins s σ H _ _ v us Q I rv rvs ⟨a, b, rx, rfl, by simpa using hl.1, lim_le hl.2, fun p hp => Post.newLst st po (Reps.ofStrs _) p hp⟩
  · cases e
theorem mt_count_ok : MtR X "list.count" (rdMt X.K (mthD .count)) := by
  intro pins s σ H vx vs v us Q I rv rvs h
  obtain ⟨R, T, x, xs, d, T', st, rx, rxs, e, po⟩ := h
  replace e : countD x xs T = .ok d T' := e
  unfold countD at e
  split at e
  · rename_i i
    obtain ⟨ys, e1, e⟩ := withL_ok e
    obtain ⟨is, e2, e⟩ := withI_ok e
    cases e
    obtain ⟨a, rfl, q⟩ := ints_of st e1 e2 rx
    obtain ⟨w, rfl, r1⟩ := len1 rxs
    cases r1
    exact mt_lcount pins s σ H _ _ v us Q I rv rvs ⟨a, is, i, rfl, rfl, q, Post.now st po rfl⟩
  · cases e

/-! ### stores -/
def rdSet (K : PySem.W.Frag) : TSet := fun o i v H Q => ∃ R T x k y T', StOk K R T H ∧ Rep K R H x o ∧ Rep K R H k i ∧ Rep K R H y v ∧ setIdx x k y T = .ok () T' ∧ ∀ R' H', Le R H R' H' → StOk K R' T' H' → Q H'
theorem dhas_K {K : PySem.W.Frag} {R : Rho} {H : Hp} {x : D} {k : Key} (hk : keyK x = some k) : ∀ {kvs : List (D × D)} {ks : List (Key × V)}, PairsK K R H kvs ks → dhas kvs x = ks.any fun kv => decide (kv.1 = k)
  | [], _, h => by cases h; rfl
  | (k', d) :: r, ks, h => by
    obtain ⟨m, w, r', rfl, e, h1, h2⟩ := h
    unfold dhas
    rw [keyK_eq e hk, dhas_K hk h2, List.any_cons]
theorem dhas_T {K : PySem.W.Frag} {R : Rho} {H : Hp} {x : D} {k : List Key} (hk : keyT x = some k) : ∀ {kvs : List (D × D)} {ks : List (List Key × V)}, PairsT K R H kvs ks → dhas kvs x = ks.any fun kv => decide (kv.1 = k)
  | [], _, h => by cases h; rfl
  | (k', d) :: r, ks, h => by
    obtain ⟨m, w, r', rfl, e, h1, h2⟩ := h
    unfold dhas
    rw [keyT_eq e hk, dhas_T hk h2, List.any_cons]
theorem dset_K {K : PySem.W.Frag} {R R' : Rho} {H H' : Hp} {x y : D} {v : V} {k : Key} (hk : keyK x = some k) (l : Le R H R' H') (rv : Rep K R' H' y v) : ∀ {kvs : List (D × D)} {ks : List (Key × V)}, PairsK K R H kvs ks → PairsK K R' H' (dset kvs x y) (ks.map fun kv => if kv.1 = k then (kv.1, v) else kv)
  | [], _, h => by cases h; rfl
  | (k', d) :: r, ks, h => by
    obtain ⟨m, w, r', rfl, e, h1, h2⟩ := h
    have ih := dset_K hk l rv h2
    unfold dset
    rw [keyK_eq e hk, List.map_cons]
    by_cases hm : m = k
    · simp only [hm, decide_true, if_true]
      exact ⟨k, v, _, rfl, by rw [e, hm], rv, ih⟩
    · simp only [hm, decide_false, if_false]
      exact ⟨m, w, _, rfl, e, Rep.mono l _ _ h1, ih⟩
theorem dset_T {K : PySem.W.Frag} {R R' : Rho} {H H' : Hp} {x y : D} {v : V} {k : List Key} (hk : keyT x = some k) (l : Le R H R' H') (rv : Rep K R' H' y v) : ∀ {kvs : List (D × D)} {ks : List (List Key × V)}, PairsT K R H kvs ks → PairsT K R' H' (dset kvs x y) (ks.map fun kv => if kv.1 = k then (kv.1, v) else kv)
  | [], _, h => by cases h; rfl
  | (k', d) :: r, ks, h => by
    obtain ⟨m, w, r', rfl, e, h1, h2⟩ := h
    have ih := dset_T hk l rv h2
    unfold dset
    rw [keyT_eq e hk, List.map_cons]
    by_cases hm : m = k
    · simp only [hm, decide_true, if_true]
      exact ⟨k, v, _, rfl, by rw [e, hm], rv, ih⟩
    · simp only [hm, decide_false, if_false]
      exact ⟨m, w, _, rfl, e, Rep.mono l _ _ h1, ih⟩
theorem pairsK_app {K : PySem.W.Frag} {R : Rho} {H : Hp} {x y : D} {v : V} {k : Key} (hk : keyK x = some k) (rv : Rep K R H y v) : ∀ {kvs : List (D × D)} {ks : List (Key × V)}, PairsK K R H kvs ks → PairsK K R H (kvs ++ [(x, y)]) (ks ++ [(k, v)])
  | [], _, h => by cases h; exact ⟨k, v, [], rfl, hk, rv, rfl⟩
  | (k', d) :: r, ks, h => by
    obtain ⟨m, w, r', rfl, e, h1, h2⟩ := h
    exact ⟨m, w, _, rfl, e, h1, pairsK_app hk rv h2⟩
theorem pairsT_app {K : PySem.W.Frag} {R : Rho} {H : Hp} {x y : D} {v : V} {k : List Key} (hk : keyT x = some k) (rv : Rep K R H y v) : ∀ {kvs : List (D × D)} {ks : List (List Key × V)}, PairsT K R H kvs ks → PairsT K R H (kvs ++ [(x, y)]) (ks ++ [(k, v)])
  | [], _, h => by cases h; exact ⟨k, v, [], rfl, hk, rv, rfl⟩
  | (k', d) :: r, ks, h => by
    obtain ⟨m, w, r', rfl, e, h1, h2⟩ := h
    exact ⟨m, w, _, rfl, e, h1, pairsT_app hk rv h2⟩
theorem dput_K {K : PySem.W.Frag} {R R' : Rho} {H H' : Hp} {x y : D} {v : V} {k : Key} {kvs : List (D × D)} {ks : List (Key × V)} (hk : keyK x = some k) (l : Le R H R' H') (rv : Rep K R' H' y v) (h : PairsK K R H kvs ks) : PairsK K R' H' (dput kvs x y) (putK ks k v) := by
  unfold dput putK
  rw [dhas_K hk h]
  split
  · rename_i e
    rw [if_pos e]
    exact dset_K hk l rv h
  · rename_i e
    rw [if_neg (by rw [e]; exact Bool.false_ne_true)]
    exact pairsK_app hk rv (h.mono l)
theorem dput_T {K : PySem.W.Frag} {R R' : Rho} {H H' : Hp} {x y : D} {v : V} {k : List Key} {kvs : List (D × D)} {ks : List (List Key × V)} (hk : keyT x = some k) (l : Le R H R' H') (rv : Rep K R' H' y v) (h : PairsT K R H kvs ks) : PairsT K R' H' (dput kvs x y) (putK ks k v) := by
  unfold dput putK
  rw [dhas_T hk h]
  split
  · rename_i e
    rw [if_pos e]
    exact dset_T hk l rv h
  · rename_i e
    rw [if_neg (by rw [e]; exact Bool.false_ne_true)]
    exact pairsT_app hk rv (h.mono l)
theorem PairsK.length {K : PySem.W.Frag} {R : Rho} {H : Hp} : ∀ {kvs : List (D × D)} {ks : List (Key × V)}, PairsK K R H kvs ks → ks.length = kvs.length
  | [], _, h => by cases h; rfl
  | (k', d) :: r, ks, h => by
    obtain ⟨m, w, r', rfl, e, h1, h2⟩ := h
    simp [PairsK.length h2]
theorem PairsT.length {K : PySem.W.Frag} {R : Rho} {H : Hp} : ∀ {kvs : List (D × D)} {ks : List (List Key × V)}, PairsT K R H kvs ks → ks.length = kvs.length
  | [], _, h => by cases h; rfl
  | (k', d) :: r, ks, h => by
    obtain ⟨m, w, r', rfl, e, h1, h2⟩ := h
    simp [PairsT.length h2]
theorem set_ok (hu : X.A.units + 64 < cLine) : PSet X (rdSet X.K) := by
  intro pins s σ H o i v ov iv u Q I ro ri rv h
  obtain ⟨R, T, x, k, y, T', st, rx, rk, ry, e, po⟩ := h
  unfold setIdx at e
  cases x <;> first | (cases e; done) | skip
  rename_i n
  obtain ⟨a, rfl, c⟩ := id rx
  cases e1 : T[n]? with
  | none => simp only [e1] at e; cases e
  | some cl =>
    cases cl with
    | dead => simp only [e1] at e; cases e
    | obj c ns fs => simp only [e1] at e; cases e
    | lst ds =>
      simp only [e1] at e
      cases k <;> first | (cases e; done) | skip
      rename_i z
      cases e2 : ixN ds.length z with
      | none => simp only [e2] at e; cases e
      | some j =>
        simp only [e2] at e
        cases e
        obtain ⟨⟨vs, q, rs⟩, _⟩ := st.cell n a _ c e1 rfl
        refine set_list pins s σ H _ i v ov iv u Q I ro ri rv ⟨a, vs, z, j, rfl, rk, q, by rw [rs.length]; exact e2, ?_⟩
        obtain ⟨l, s'⟩ := st.write (o := .lst (vs.set j v)) (c := .lst (ds.set j y)) c e1 rfl fun R' l => ⟨_, upd_same, (Reps.mono l _ _ rs).set (Rep.mono l _ _ ry) j⟩
        exact po _ _ l s'
    | dic t kvs =>
      simp only [e1] at e
      split at e
      · rename_i hk
        cases e
        rw [Bool.and_eq_true, Bool.and_eq_true, beq_iff_eq] at hk
        obtain ⟨⟨h1, h2⟩, h3⟩ := hk
        obtain ⟨hc, _⟩ := st.cell n a _ c e1 rfl
        cases t with
        | false =>
          obtain ⟨ks, q, r⟩ := hc
          obtain ⟨k', ek⟩ := keyOk_K h1 h2
          have ev := keyK_v ek rk
          subst ev
          obtain ⟨l, s'⟩ := st.write (o := .dK (putK ks k' v)) (c := .dic false (dput kvs k y)) c e1 rfl fun R' l => ⟨_, upd_same, dput_K ek l (Rep.mono l _ _ ry) r⟩
          exact set_dict (by omega) pins s σ H _ _ v ov iv u Q I ro ri rv ⟨a, _, rfl, DPut.k q (by rw [r.length]; exact blt_lt h3), po _ _ l s'⟩
        | true =>
          obtain ⟨ks, q, r⟩ := hc
          obtain ⟨k', ek⟩ := keyOk_T h1 h2
          cases k <;> first | (cases ek; done) | skip
          obtain ⟨b, vs, rfl, t, rs⟩ := id rk
          have ev := keyKs_v ek rs
          subst ev
          obtain ⟨l, s'⟩ := st.write (o := .dT (putK ks k' v)) (c := .dic true (dput kvs (.tup _) y)) c e1 rfl fun R' l => ⟨_, upd_same, dput_T ek l (Rep.mono l _ _ ry) r⟩
          exact set_dict (by omega) pins s σ H _ _ v ov iv u Q I ro ri rv ⟨a, _, rfl, DPut.t q t.2 (by rw [r.length]; exact blt_lt h3), po _ _ l s'⟩
      · cases e
end
end Pz

set_option Elab.async false
set_option linter.all false
set_option maxRecDepth 100000
set_option maxHeartbeats 1000000
/-! I5: readings put together. -/
namespace Pz
open PySem PySem.Spec L2

section
variable {K : PySem.W.Frag}
/-- one step, then what follows -/
theorem rd_then {α : Type} {ev : Env → M D} {f : Env → D → M α} {σ : L2.St} {H : Hp} {R : Rho} {T T' : Store} {env : Env} {b : α} {Q : VK} (st : StOk K R T H) (en : EnvOk K R H σ env) (e : (ev env >>= f env) T = .ok b T')
    (h : ∀ x T1 R1 H1 v, f env x T1 = .ok b T' → Le R H R1 H1 → StOk K R1 T1 H1 → EnvOk K R1 H1 σ env → Rep K R1 H1 x v → Q v H1) : rdE K ev σ H Q := by
  obtain ⟨x, T1, e1, e2⟩ := bind_ok e
  exact ⟨R, T, env, x, T1, st, en, e1, fun R1 H1 v l s r => h x T1 R1 H1 v e2 l s (en.mono l) r⟩
theorem rdA_then {α : Type} {ev : Env → M (List D)} {f : Env → List D → M α} {σ : L2.St} {H : Hp} {R : Rho} {T T' : Store} {env : Env} {b : α} {Q : List V → Hp → Prop} (st : StOk K R T H) (en : EnvOk K R H σ env) (e : (ev env >>= f env) T = .ok b T')
    (h : ∀ x T1 R1 H1 v, f env x T1 = .ok b T' → Le R H R1 H1 → StOk K R1 T1 H1 → EnvOk K R1 H1 σ env → Reps K R1 H1 x v → Q v H1) : rdA K ev σ H Q := by
  obtain ⟨x, T1, e1, e2⟩ := bind_ok e
  exact ⟨R, T, env, x, T1, st, en, e1, fun R1 H1 v l s r => h x T1 R1 H1 v e2 l s (en.mono l) r⟩
theorem Post.later {R R1 : Rho} {H H1 : Hp} {d : D} {T : Store} {Q : VK} (po : Post K R H d T Q) (l : Le R H R1 H1) : Post K R1 H1 d T Q := fun R2 H2 v l2 s r => po R2 H2 v (l.trans l2) s r

theorem rd_op {ea eb : Env → M D} {g : D → D → M D} {σ : L2.St} {H : Hp} {Q : VK} (h : rdE K (fun env => do let x ← ea env; let y ← eb env; g x y) σ H Q) : tOp (rdOp K g) (rdE K ea) (rdE K eb) σ H Q := by
  obtain ⟨R, T, env, d, T', st, en, e, po⟩ := h
  refine rd_then (f := fun env x => do let y ← eb env; g x y) st en e fun x T1 R1 H1 v e1 l1 s1 en1 r1 => ?_
  refine rd_then (f := fun env y => g x y) s1 en1 e1 fun y T2 R2 H2 w e2 l2 s2 en2 r2 => ?_
  exact ⟨R2, T2, x, y, d, T', s2, Rep.mono l2 _ _ r1, r2, e2, po.later (l1.trans l2)⟩
theorem rd_un {ea : Env → M D} {g : D → M D} {σ : L2.St} {H : Hp} {Q : VK} (h : rdE K (fun env => do let x ← ea env; g x) σ H Q) : tUn (rdUn K g) (rdE K ea) σ H Q := by
  obtain ⟨R, T, env, d, T', st, en, e, po⟩ := h
  refine rd_then (f := fun env x => g x) st en e fun x T1 R1 H1 v e1 l1 s1 en1 r1 => ?_
  exact ⟨R1, T1, x, d, T', s1, r1, e1, po.later l1⟩
theorem rd_cl {ea : Env → M (List D)} {g : List D → M D} {σ : L2.St} {H : Hp} {Q : VK} (h : rdE K (fun env => do let x ← ea env; g x) σ H Q) : tCB (rdCl K g) (rdA K ea) σ H Q := by
  obtain ⟨R, T, env, d, T', st, en, e, po⟩ := h
  refine rdA_then (f := fun env x => g x) st en e fun x T1 R1 H1 v e1 l1 s1 en1 r1 => ?_
  exact ⟨R1, T1, x, d, T', s1, r1, e1, po.later l1⟩
/-- a def's promise -/
def spF (K : PySem.W.Frag) (n : Nat) (c : List D → M D) : Sp := fun vs H Q _ => vs.length = n ∧ rdCl K c vs H Q
theorem rd_call {ea : Env → M (List D)} {g : List D → M D} {n : Nat} {σ : L2.St} {H : Hp} {Q : VK} {E : XK} (hn : ∀ xs T d T', g xs T = .ok d T' → xs.length = n) (h : rdE K (fun env => do let x ← ea env; g x) σ H Q) : tCall (spF K n g) [] E (rdA K ea) σ H Q := by
  obtain ⟨R, T, env, d, T', st, en, e, po⟩ := h
  refine rdA_then (f := fun env x => g x) st en e fun x T1 R1 H1 v e1 l1 s1 en1 r1 => ?_
  rw [List.append_nil]
  exact ⟨by rw [r1.length]; exact hn _ _ _ _ e1, R1, T1, x, d, T', s1, r1, e1, po.later l1⟩
theorem rd_nil : ∀ {σ : L2.St} {H : Hp} {Q : List V → Hp → Prop}, rdA K (fun _ => pure []) σ H Q → tNil σ H Q := by
  rintro σ H Q ⟨R, T, env, d, T', st, en, e, po⟩
  obtain ⟨rfl, rfl⟩ := pure_ok e
  exact po R H [] (Le.refl _ _) st rfl
theorem rd_cons {ea : Env → M D} {es : Env → M (List D)} {σ : L2.St} {H : Hp} {Q : List V → Hp → Prop} (h : rdA K (fun env => do let x ← ea env; let xs ← es env; pure (x :: xs)) σ H Q) : tCons (rdE K ea) (rdA K es) σ H Q := by
  obtain ⟨R, T, env, d, T', st, en, e, po⟩ := h
  refine rd_then (f := fun env x => do let xs ← es env; pure (x :: xs)) st en e fun x T1 R1 H1 v e1 l1 s1 en1 r1 => ?_
  refine rdA_then (f := fun env xs => pure (x :: xs)) s1 en1 e1 fun xs T2 R2 H2 vs e2 l2 s2 en2 r2 => ?_
  obtain ⟨rfl, rfl⟩ := pure_ok e2
  exact po R2 H2 (v :: vs) (l1.trans l2) s2 (Reps.cons (Rep.mono l2 _ _ r1) r2)
theorem boolD_ok {x : D} {T T' : Store} {b : Bool} (h : boolD x T = .ok b T') : x = .bl b ∧ T = T' := by
  cases x <;> first | (cases h; done) | skip
  obtain ⟨rfl, rfl⟩ := pure_ok h
  exact ⟨rfl, rfl⟩
/-- a test from a value -/
theorem rd_test {ea : Env → M D} {σ : L2.St} {H : Hp} {Q : Bool → Hp → Prop} (h : rdT K (fun env => do let x ← ea env; boolD x) σ H Q) : tB (rdE K ea) σ H Q := by
  obtain ⟨R, T, env, b, T', st, en, e, po⟩ := h
  refine rd_then (f := fun env x => boolD x) st en e fun x T1 R1 H1 v e1 l1 s1 en1 r1 => ?_
  obtain ⟨rfl, rfl⟩ := boolD_ok e1
  exact ⟨b, r1, po R1 H1 l1 s1⟩
theorem rd_ite {ec : Env → M Bool} {ea eb : Env → M D} {σ : L2.St} {H : Hp} {Q : VK} (h : rdE K (fun env => do let k ← ec env; match k with | true => ea env | false => eb env) σ H Q) : tIf (rdT K ec) (rdE K ea) (rdE K eb) σ H Q := by
  obtain ⟨R, T, env, d, T', st, en, e, po⟩ := h
  obtain ⟨k, T1, e1, e2⟩ := bind_ok e
  refine ⟨R, T, env, k, T1, st, en, e1, fun R1 H1 l1 s1 => ?_⟩
  cases k with
  | true => rw [if_pos rfl]; exact ⟨R1, T1, env, d, T', s1, en.mono l1, e2, po.later l1⟩
  | false => rw [if_neg Bool.false_ne_true]; exact ⟨R1, T1, env, d, T', s1, en.mono l1, e2, po.later l1⟩
theorem rd_tup {ea : Env → M (List D)} {σ : L2.St} {H : Hp} {Q : VK} (h : rdE K (fun env => do let ds ← ea env; fun T => okIf (lim ds.length) (.tup ds) T) σ H Q) : tTup (rdA K ea) σ H Q := by
  obtain ⟨R, T, env, d, T', st, en, e, po⟩ := h
  refine rdA_then (f := fun _ ds => fun T => okIf (lim ds.length) (D.tup ds) T) st en e fun x T1 R1 H1 v e1 l1 s1 en1 r1 => ?_
  obtain ⟨hl, rfl, rfl⟩ := okIf_ok e1
  exact ⟨by rw [r1.length]; exact lim_le hl, fun p hp => Post.newTup s1 (po.later l1) r1 p hp⟩
/-- a fresh list -/
def rdF (K : PySem.W.Frag) (ev : Env → M D) : TE := fun σ H Q => ∃ R T env ds T', StOk K R T H ∧ EnvOk K R H σ env ∧ ev env T = .ok (.lst ds) T' ∧ ∀ R' H' p vs, Le R H R' H' → StOk K R' T' H' → H' p = none → Reps K R' H' ds vs → Q (.ref p) (upd H' p (.lst vs))
theorem rdF_lst {ea : Env → M (List D)} {σ : L2.St} {H : Hp} {Q : VK} (h : rdF K (fun env => do let ds ← ea env; fun T => okIf (lim ds.length) (.lst ds) T) σ H Q) : tLst (rdA K ea) σ H Q := by
  obtain ⟨R, T, env, d, T', st, en, e, po⟩ := h
  refine rdA_then (f := fun _ ds => fun T => okIf (lim ds.length) (D.lst ds) T) st en e fun x T1 R1 H1 v e1 l1 s1 en1 r1 => ?_
  obtain ⟨hl, q, rfl⟩ := okIf_ok e1
  cases q
  exact ⟨by rw [r1.length]; exact lim_le hl, fun p hp => po R1 H1 p v l1 s1 hp r1⟩
/-- frozen at once -/
theorem rd_of_fresh {ev : Env → M D} (hf : ∀ env T d T', ev env T = .ok d T' → ∃ ds, d = .lst ds) {σ : L2.St} {H : Hp} {Q : VK} (h : rdE K ev σ H Q) : rdF K ev σ H Q := by
  obtain ⟨R, T, env, d, T', st, en, e, po⟩ := h
  obtain ⟨ds, rfl⟩ := hf _ _ _ _ e
  refine ⟨R, T, env, ds, T', st, en, e, fun R' H' p vs l s hp r => ?_⟩
  exact Post.newLst s (po.later l) r p hp
/-- a cell -/
theorem rd_mut {ev : Env → M D} {σ : L2.St} {H : Hp} {Q : VK} (h : rdE K (fun env => do let x ← ev env; mutD x) σ H Q) : rdF K ev σ H Q := by
  obtain ⟨R, T, env, d, T', st, en, e, po⟩ := h
  obtain ⟨x, T1, e1, e2⟩ := bind_ok e
  cases x <;> first | (cases e2; done) | skip
  rename_i ds
  cases e2
  refine ⟨R, T, env, ds, T1, st, en, e1, fun R' H' p vs l s hp r => ?_⟩
  obtain ⟨l2, s2⟩ := s.newCell (o := .lst vs) (c := .lst ds) hp fun R2 l2 => ⟨vs, upd_same, Reps.mono l2 _ _ r⟩
  refine po _ _ _ (l.trans l2) s2 ⟨p, rfl, ?_⟩
  rw [← s.len, List.getElem?_append_right (Nat.le_refl _), Nat.sub_self]
  rfl
theorem rd_frz {ev : Env → M D} {σ : L2.St} {H : Hp} {Q : VK} (h : rdE K (fun env => do let x ← ev env; frzD x) σ H Q) : rdE K ev σ H Q := by
  obtain ⟨R, T, env, d, T', st, en, e, po⟩ := h
  obtain ⟨x, T1, e1, e2⟩ := bind_ok e
  refine ⟨R, T, env, x, T1, st, en, e1, fun R1 H1 v l1 s1 r1 => ?_⟩
  cases x with
  | ref n =>
    obtain ⟨a, rfl, c⟩ := r1
    replace e2 : frzC n T1 = .ok d T' := e2
    unfold frzC at e2
    split at e2
    · rename_i ds e3
      cases e2
      obtain ⟨l2, s2, vs, q, r⟩ := s1.freeze c e3
      exact po _ _ _ (l1.trans l2) s2 ⟨a, vs, rfl, ⟨.inr rfl, q⟩, Reps.mono l2 _ _ r⟩
    · rename_i c' ns ds e3
      cases e2
      obtain ⟨l2, s2, vs, q, r⟩ := s1.freezeC c e3 rfl
      exact po _ _ _ (l1.trans l2) s2 ⟨a, vs, rfl, ⟨.inr rfl, q⟩, Reps.mono l2 _ _ r⟩
    · cases e2
  | _ =>
    obtain ⟨rfl, rfl⟩ := pure_ok e2
    exact po R1 H1 v l1 s1 r1
theorem rd_and {ea eb : Env → M D} {σ : L2.St} {H : Hp} {Q : VK} (h : rdE K (fun env => do let x ← ea env; let k ← boolD x; match k with | true => eb env | false => pure (.bl false)) σ H Q) : tAndV (rdE K ea) (rdE K eb) σ H Q := by
  obtain ⟨R, T, env, d, T', st, en, e, po⟩ := h
  refine rd_then (f := fun env x => do let k ← boolD x; match k with | true => eb env | false => pure (.bl false)) st en e fun x T1 R1 H1 v e1 l1 s1 en1 r1 => ?_
  obtain ⟨k, T2, e2, e3⟩ := bind_ok e1
  obtain ⟨rfl, rfl⟩ := boolD_ok e2
  refine ⟨k, r1, ?_⟩
  cases k with
  | true => rw [if_pos rfl]; exact ⟨R1, T1, env, d, T', s1, en1, e3, po.later l1⟩
  | false =>
    rw [if_neg Bool.false_ne_true]
    obtain ⟨rfl, rfl⟩ := pure_ok e3
    exact Post.now s1 (po.later l1) rfl
theorem rd_or {ea eb : Env → M D} {σ : L2.St} {H : Hp} {Q : VK} (h : rdE K (fun env => do let x ← ea env; let k ← boolD x; match k with | true => pure (.bl true) | false => eb env) σ H Q) : tOrV (rdE K ea) (rdE K eb) σ H Q := by
  obtain ⟨R, T, env, d, T', st, en, e, po⟩ := h
  refine rd_then (f := fun env x => do let k ← boolD x; match k with | true => pure (.bl true) | false => eb env) st en e fun x T1 R1 H1 v e1 l1 s1 en1 r1 => ?_
  obtain ⟨k, T2, e2, e3⟩ := bind_ok e1
  obtain ⟨rfl, rfl⟩ := boolD_ok e2
  refine ⟨k, r1, ?_⟩
  cases k with
  | false => rw [if_neg Bool.false_ne_true]; exact ⟨R1, T1, env, d, T', s1, en1, e3, po.later l1⟩
  | true =>
    rw [if_pos rfl]
    obtain ⟨rfl, rfl⟩ := pure_ok e3
    exact Post.now s1 (po.later l1) rfl
theorem listOnly_ok {y d : D} {T T' : Store} (h : listOnly y T = .ok d T') : y = d ∧ T = T' ∧ ∃ ds, isList T y = some ds := by
  unfold listOnly at h
  split at h
  · rename_i ds e
    cases h
    exact ⟨rfl, rfl, ds, e⟩
  · cases h
def orTD (eb : M D) (x : D) : M D := fun T => match isList T x with
  | some [] => (do
    let y ← eb
    listOnly y) T
  | some _ => .ok x T
  | none => .bad
theorem rd_orT {ea eb : Env → M D} {σ : L2.St} {H : Hp} {Q : VK} (h : rdE K (fun env => do let x ← ea env; orTD (eb env) x) σ H Q) : tOrT K (rdE K ea) (rdE K eb) σ H Q := by
  obtain ⟨R, T, env, d, T', st, en, e, po⟩ := h
  refine rd_then (f := fun env x => orTD (eb env) x) st en e fun x T1 R1 H1 v e1 l1 s1 en1 r1 => ?_
  unfold orTD at e1
  cases e2 : isList T1 x with
  | none => simp only [e2] at e1; cases e1
  | some ds =>
    obtain ⟨a, vs, rfl, q, r⟩ := isList_at s1 e2 r1
    have hl := r.length
    cases ds with
    | nil =>
      simp only [e2] at e1
      refine ⟨false, .inl ⟨vs, SqL.of q, ?_⟩, ?_⟩
      · cases vs with
        | nil => rfl
        | cons _ _ => cases hl
      · refine iteF ?_
        obtain ⟨y, T2, e3, e4⟩ := bind_ok e1
        obtain ⟨rfl, rfl, _⟩ := listOnly_ok e4
        exact ⟨R1, T1, env, y, T2, s1, en1, e3, po.later l1⟩
    | cons z zs =>
      simp only [e2] at e1
      cases e1
      refine ⟨true, .inl ⟨vs, SqL.of q, ?_⟩, ?_⟩
      · cases vs with
        | nil => cases hl
        | cons _ _ => rfl
      · refine iteT ?_
        exact Post.now s1 (po.later l1) r1
theorem orTD_list {eb : M D} {x d : D} {T T' : Store} (h : orTD eb x T = .ok d T') : ∃ ds, isList T' d = some ds := by
  unfold orTD at h
  split at h
  · obtain ⟨y, T2, e3, e4⟩ := bind_ok h
    obtain ⟨rfl, rfl, q⟩ := listOnly_ok e4
    exact q
  · rename_i e
    cases h
    exact ⟨_, e⟩
  · cases h
theorem rd_not {ea : Env → M D} {σ : L2.St} {H : Hp} {Q : VK} (h : rdE K (fun env => do let x ← ea env; notD x) σ H Q) : tNotV (rdE K ea) σ H Q := by
  obtain ⟨R, T, env, d, T', st, en, e, po⟩ := h
  refine rd_then (f := fun env x => notD x) st en e fun x T1 R1 H1 v e1 l1 s1 en1 r1 => ?_
  cases x <;> first | (cases e1; done) | skip
  obtain ⟨rfl, rfl⟩ := pure_ok e1
  exact ⟨_, r1, Post.now s1 (po.later l1) rfl⟩
theorem rd_chain {ea eb ec : Env → M D} {g g' : D → D → M D} {σ : L2.St} {H : Hp} {Q : VK}
    (h : rdE K (fun env => do let x ← ea env; let y ← eb env; let r ← g x y; let k ← boolD r; match k with | true => (do let z ← ec env; g' y z) | false => pure (.bl false)) σ H Q) : tChain (rdOp K g) (rdOp K g') (rdE K ea) (rdE K eb) (rdE K ec) σ H Q := by
  obtain ⟨R, T, env, d, T', st, en, e, po⟩ := h
  refine rd_then (f := fun env x => do let y ← eb env; let r ← g x y; let k ← boolD r; match k with | true => (do let z ← ec env; g' y z) | false => pure (.bl false)) st en e fun x T1 R1 H1 v e1 l1 s1 en1 r1 => ?_
  refine rd_then (f := fun env y => do let r ← g x y; let k ← boolD r; match k with | true => (do let z ← ec env; g' y z) | false => pure (.bl false)) s1 en1 e1 fun y T2 R2 H2 w e2 l2 s2 en2 r2 => ?_
  obtain ⟨r, T3, e3, e4⟩ := bind_ok e2
  refine ⟨R2, T2, x, y, r, T3, s2, Rep.mono l2 _ _ r1, r2, e3, fun R3 H3 z l3 s3 r3 => ?_⟩
  obtain ⟨k, T4, e5, e6⟩ := bind_ok e4
  obtain ⟨rfl, rfl⟩ := boolD_ok e5
  refine ⟨k, r3, ?_⟩
  cases k with
  | true =>
    rw [if_pos rfl]
    refine rd_then (f := fun env z => g' y z) s3 (en2.mono l3) e6 fun z' T5 R5 H5 w' e7 l5 s5 en5 r5 => ?_
    exact ⟨R5, T5, y, z', d, T', s5, Rep.mono (l3.trans l5) _ _ r2, r5, e7, po.later (l1.trans (l2.trans (l3.trans l5)))⟩
  | false =>
    rw [if_neg Bool.false_ne_true]
    obtain ⟨rfl, rfl⟩ := pure_ok e6
    exact Post.now s3 (po.later (l1.trans (l2.trans l3))) rfl
def rdO (K : PySem.W.Frag) (ev : Env → M (Option Int)) : TO := fun σ H Q => ∃ R T env o T', StOk K R T H ∧ EnvOk K R H σ env ∧ ev env T = .ok o T' ∧ ∀ R' H', Le R H R' H' → StOk K R' T' H' → Q o H'
theorem rd_slc {ea : Env → M D} {el eh : Env → M (Option Int)} {g : D → Option Int → Option Int → M D} {σ : L2.St} {H : Hp} {Q : VK} (h : rdE K (fun env => do let x ← ea env; let l ← el env; let u ← eh env; g x l u) σ H Q) : tSl (rdSl K g) (rdE K ea) (rdO K el) (rdO K eh) σ H Q := by
  obtain ⟨R, T, env, d, T', st, en, e, po⟩ := h
  refine rd_then (f := fun env x => do let l ← el env; let u ← eh env; g x l u) st en e fun x T1 R1 H1 v e1 l1 s1 en1 r1 => ?_
  obtain ⟨l, T2, e2, e3⟩ := bind_ok e1
  refine ⟨R1, T1, env, l, T2, s1, en1, e2, fun R2 H2 l2 s2 => ?_⟩
  obtain ⟨u, T3, e4, e5⟩ := bind_ok e3
  refine ⟨R2, T2, env, u, T3, s2, en1.mono l2, e4, fun R3 H3 l3 s3 => ?_⟩
  exact ⟨R3, T3, x, d, T', s3, Rep.mono (l2.trans l3) _ _ r1, e5, po.later (l1.trans (l2.trans l3))⟩
theorem rd_part {ea : Env → M D} {σ : L2.St} {H : Hp} {Q : Option Int → Hp → Prop} (h : rdO K (fun env => do let x ← ea env; match x with | .int i => pure (some i) | _ => fail) σ H Q) : tPart (rdE K ea) σ H Q := by
  obtain ⟨R, T, env, o, T', st, en, e, po⟩ := h
  refine rd_then (f := fun env x => match x with | .int i => pure (some i) | _ => fail) st en e fun x T1 R1 H1 v e1 l1 s1 en1 r1 => ?_
  cases x <;> first | (cases e1; done) | skip
  obtain ⟨rfl, rfl⟩ := pure_ok e1
  exact ⟨_, r1, po R1 H1 l1 s1⟩
theorem rd_nopart {σ : L2.St} {H : Hp} {Q : Option Int → Hp → Prop} (h : rdO K (fun _ => pure none) σ H Q) : tNoPart σ H Q := by
  obtain ⟨R, T, env, o, T', st, en, e, po⟩ := h
  obtain ⟨rfl, rfl⟩ := pure_ok e
  exact po R H (Le.refl _ _) st
theorem rd_mth {ea : Env → M D} {es : Env → M (List D)} {m : Mt} {σ : L2.St} {H : Hp} {Q : VK} (hm : m ≠ .tindex) (h : rdE K (fun env => do let x ← ea env; let _ ← (fun T => okIf (tyOk m x T) () T : M Unit); let ds ← es env; mthD m x ds) σ H Q) : tBM K (mtT m) (rdMt K (mthD m)) (rdE K ea) (rdA K es) σ H Q := by
  obtain ⟨R, T, env, d, T', st, en, e, po⟩ := h
  refine rd_then (f := fun env x => do let _ ← (fun T => okIf (tyOk m x T) () T : M Unit); let ds ← es env; mthD m x ds) st en e fun x T1 R1 H1 v e1 l1 s1 en1 r1 => ?_
  obtain ⟨_, T2, e2, e3⟩ := bind_ok e1
  obtain ⟨ht, _, rfl⟩ := okIf_ok e2
  refine ⟨tyOk_v hm s1 ht r1, ?_⟩
  refine rdA_then (f := fun env ds => mthD m x ds) s1 en1 e3 fun ds T3 R3 H3 vs e4 l3 s3 en3 r3 => ?_
  exact ⟨R3, T3, x, ds, d, T', s3, Rep.mono l3 _ _ r1, r3, e4, po.later (l1.trans l3)⟩
end
end Pz

set_option Elab.async false
set_option linter.all false
set_option maxRecDepth 100000
set_option maxHeartbeats 1000000
/-! I6: what is walked. -/
namespace Pz
open PySem PySem.Spec L2

theorem sameN_eq : ∀ (a b : List Str), sameN a b = true → a = b
  | [], [], _ => rfl
  | [], _ :: _, h => by cases h
  | _ :: _, [], h => by cases h
  | x :: xs, y :: ys, h => by
    simp only [sameN, Bool.and_eq_true] at h
    rw [beqS_eq h.1, sameN_eq xs ys h.2]
mutual
theorem sameD_eq : ∀ (x y : D), sameD x y = true → x = y
  | .non, y, h => by cases y <;> first | rfl | cases h
  | .bl a, y, h => by cases y <;> first | (cases h; done) | (simp only [sameD, beq_iff_eq] at h; rw [h])
  | .int a, y, h => by cases y <;> first | (cases h; done) | (simp only [sameD, decide_eq_true_eq] at h; rw [h])
  | .str a, y, h => by cases y <;> first | (cases h; done) | (simp only [sameD, decide_eq_true_eq] at h; rw [h])
  | .tup a, y, h => by cases y <;> first | (cases h; done) | (rw [sameL_eq a _ h])
  | .lst a, y, h => by cases y <;> first | (cases h; done) | (rw [sameL_eq a _ h])
  | .ext t a, y, h => by cases y <;> first | (cases h; done) | (simp only [sameD, Bool.and_eq_true, beq_iff_eq] at h; rw [sameL_eq a _ h.2, h.1])
  | .ref a, y, h => by cases y <;> first | (cases h; done) | (rw [Nat.eq_of_beq_eq_true h])
  | .obj a b c, y, h => by cases y <;> first | (cases h; done) | (simp only [sameD, Bool.and_eq_true] at h; rw [beqS_eq h.1.1, sameN_eq _ _ h.1.2, sameL_eq c _ h.2])
  | .lab a, y, h => by cases y <;> first | (cases h; done) | (rw [sameL_eq a _ h])
theorem sameL_eq : ∀ (xs ys : List D), sameL xs ys = true → xs = ys
  | [], ys, h => by cases ys <;> first | rfl | cases h
  | x :: xs, ys, h => by
    cases ys with
    | nil => cases h
    | cons y ys =>
      simp only [sameL, Bool.and_eq_true] at h
      rw [sameD_eq x y h.1, sameL_eq xs ys h.2]
end
theorem stay1_eq {n : Nat} {xs : List D} {T : Store} (h : stay1 n xs T = true) : T[n]? = some (.lst xs) := by
  unfold stay1 at h
  split at h
  · rename_i ys e
    rw [e, sameL_eq _ _ h]
  · cases h
theorem stays_app : ∀ {g g' : Guard} {T : Store}, stays (g ++ g') T = true → stays g T = true ∧ stays g' T = true
  | [], _, _, h => ⟨rfl, h⟩
  | (n, xs) :: r, g', T, h => by
    simp only [List.cons_append, stays, Bool.and_eq_true] at h ⊢
    obtain ⟨h1, h2⟩ := stays_app h.2
    exact ⟨⟨h.1, h1⟩, h2⟩

/-- the iterator J gives the items, as long as the cells of g stay -/
def ItOk (K : PySem.W.Frag) (R : Rho) (H : Hp) (J : It) (w : Walk) : Prop :=
  ∀ R2 H2 T2 i, LeW R H R2 H2 → StOk K R2 T2 H2 → stays w.2 T2 = true →
    (w.1.length ≤ i → J.stop i H2) ∧ ∀ d, w.1[i]? = some d → J.go i H2 ∧ ∀ x H3, J.yld i H2 x H3 → ∃ R3, Le R2 H2 R3 H3 ∧ StOk K R3 T2 H3 ∧ Rep K R3 H3 d x
def rdI (K : PySem.W.Frag) (ev : Env → M Walk) : TI := fun σ H Rk => ∃ R T env w T', StOk K R T H ∧ EnvOk K R H σ env ∧ ev env T = .ok w T' ∧ ∀ R1 H1 J, Le R H R1 H1 → StOk K R1 T' H1 → ItOk K R1 H1 J w → Rk J H1

/-- where a list that is walked lies, as long as it stays -/
theorem lstWalk_at {K : PySem.W.Frag} {R : Rho} {T : Store} {H : Hp} {x : D} {v : V} {w : Walk} {T' : Store} (st : StOk K R T H) (h : lstWalk x T = .ok w T') (r : Rep K R H x v) : T = T' ∧ ∃ a, v = .ref a ∧ (∃ vs, SqL K H a vs) ∧
    ∀ R2 H2 T2, LeW R H R2 H2 → StOk K R2 T2 H2 → stays w.2 T2 = true → ∃ vs, H2 a = some (.lst vs) ∧ Reps K R2 H2 w.1 vs := by
  cases x with
  | lst xs =>
    cases h
    obtain ⟨a, vs, rfl, t, r⟩ := r
    exact ⟨rfl, a, rfl, ⟨vs, SqL.of t.2⟩, fun R2 H2 T2 l s _ => ⟨vs, (t.monoW l).2, Reps.monoW l _ _ r⟩⟩
  | ref n =>
    simp only [lstWalk] at h
    split at h
    · rename_i xs e
      cases h
      obtain ⟨a, rfl, c⟩ := r
      obtain ⟨⟨vs, q, _⟩, _⟩ := st.cell n a _ c e rfl
      refine ⟨rfl, a, rfl, ⟨vs, SqL.of q⟩, fun R2 H2 T2 l s hs => ?_⟩
      simp only [stays, Bool.and_eq_true] at hs
      obtain ⟨⟨us, q2, r2⟩, _⟩ := s.cell n a _ (l.get c) (stay1_eq hs.1) rfl
      exact ⟨us, q2, r2⟩
    · cases h
  | _ => cases h
theorem SqL.fix {K : PySem.W.Frag} {H : Hp} {a : Addr} {vs us : List V} (h : H a = some (.lst vs)) (q : SqL K H a us) (hK : K.lookup a = none) : us = vs := by
  rcases q with (q | ⟨o, q⟩) | ⟨o, its, n, q, _⟩
  · rw [h] at q; cases q; rfl
  · rw [h] at q; cases q
  · rw [hK] at q; cases q
theorem it_list {K : PySem.W.Frag} {R : Rho} {H : Hp} {a : Addr} {w : Walk} (h : ∀ R2 H2 T2, LeW R H R2 H2 → StOk K R2 T2 H2 → stays w.2 T2 = true → ∃ vs, SqL K H2 a vs ∧ Reps K R2 H2 w.1 vs) : ItOk K R H (Itl K a) w := by
  intro R2 H2 T2 i l s hs
  obtain ⟨vs, q, r⟩ := h R2 H2 T2 l s hs
  refine ⟨fun hi => ⟨vs, q, by rw [r.length]; exact hi⟩, fun d hd => ?_⟩
  obtain ⟨v, e, rv⟩ := r.get hd
  refine ⟨⟨vs, v, q, e⟩, fun x H3 hy => ?_⟩
  obtain ⟨rfl, hy⟩ := hy
  have := hy vs q
  rw [e] at this
  cases this
  exact ⟨R2, Le.refl _ _, s, rv⟩
theorem it_tup {K : PySem.W.Frag} {R : Rho} {H : Hp} {a : Addr} {w : Walk} (h : ∀ R2 H2, LeW R H R2 H2 → ∃ vs, SqT K H2 a vs ∧ Reps K R2 H2 w.1 vs) : ItOk K R H (Itt K a) w := by
  intro R2 H2 T2 i l s hs
  obtain ⟨vs, q, r⟩ := h R2 H2 l
  refine ⟨fun hi => ⟨vs, q, by rw [r.length]; exact hi⟩, fun d hd => ?_⟩
  obtain ⟨v, e, rv⟩ := r.get hd
  refine ⟨⟨vs, v, q, e⟩, fun x H3 hy => ?_⟩
  obtain ⟨rfl, hy⟩ := hy
  have := hy vs q
  rw [e] at this
  cases this
  exact ⟨R2, Le.refl _ _, s, rv⟩
theorem upTo_len : ∀ (lo : Int) (n : Nat), (upTo lo n).length = n
  | _, 0 => rfl
  | lo, n + 1 => by simp [upTo, upTo_len]
theorem upTo_get : ∀ (lo : Int) (n i : Nat) (d : D), (upTo lo n)[i]? = some d → i < n ∧ d = .int (lo + i)
  | _, 0, _, _, h => by simp [upTo] at h
  | lo, n + 1, 0, d, h => by
    simp [upTo] at h
    subst h
    exact ⟨Nat.succ_pos _, by simp⟩
  | lo, n + 1, i + 1, d, h => by
    simp only [upTo, List.getElem?_cons_succ] at h
    obtain ⟨h1, h2⟩ := upTo_get (lo + 1) n i d h
    refine ⟨Nat.succ_lt_succ h1, ?_⟩
    rw [h2]
    congr 1
    push_cast
    omega
theorem it_range {K : PySem.W.Frag} {R : Rho} {H : Hp} (lo : Int) (n : Nat) : ItOk K R H (Itr lo n) (upTo lo n, []) := by
  intro R2 H2 T2 i l s hs
  refine ⟨fun hi => by rw [upTo_len] at hi; exact hi, fun d hd => ?_⟩
  obtain ⟨h1, rfl⟩ := upTo_get lo n i d hd
  refine ⟨h1, fun x H3 hy => ?_⟩
  obtain ⟨rfl, rfl⟩ := hy
  exact ⟨R2, Le.refl _ _, s, rfl⟩
theorem enumL_len : ∀ (k : Int) (xs : List D), (enumL k xs).length = xs.length
  | _, [] => rfl
  | k, x :: xs => by simp [enumL, enumL_len]
theorem enumL_get : ∀ (k : Int) (xs : List D) (i : Nat) (d : D), (enumL k xs)[i]? = some d → ∃ x, xs[i]? = some x ∧ d = .tup [.int (k + i), x]
  | _, [], _, _, h => by simp [enumL] at h
  | k, x :: xs, 0, d, h => by
    simp [enumL] at h
    exact ⟨x, rfl, by rw [← h]; simp⟩
  | k, x :: xs, i + 1, d, h => by
    simp only [enumL, List.getElem?_cons_succ] at h
    obtain ⟨y, h1, h2⟩ := enumL_get (k + 1) xs i d h
    refine ⟨y, by simpa using h1, ?_⟩
    rw [h2]
    congr 3
    push_cast
    omega
theorem it_enum {K : PySem.W.Frag} {R : Rho} {H : Hp} {a : Addr} {xs : List D} {g : Guard} (h : ∀ R2 H2 T2, LeW R H R2 H2 → StOk K R2 T2 H2 → stays g T2 = true → ∃ vs, SqL K H2 a vs ∧ Reps K R2 H2 xs vs) : ItOk K R H (Ite K a) (enumL 0 xs, g) := by
  intro R2 H2 T2 i l s hs
  obtain ⟨vs, q, r⟩ := h R2 H2 T2 l s hs
  refine ⟨fun hi => ⟨vs, q, by rw [r.length]; rw [enumL_len] at hi; exact hi⟩, fun d hd => ?_⟩
  obtain ⟨x, hx, rfl⟩ := enumL_get 0 xs i d hd
  obtain ⟨v, e, rv⟩ := r.get hx
  refine ⟨⟨vs, v, q, e⟩, fun y H3 hy => ?_⟩
  obtain ⟨p, z, rfl, hp, rfl, hy⟩ := hy
  have := hy vs q
  rw [e] at this
  cases this
  obtain ⟨l2, s2⟩ := s.newFz (o := .tup [.int (i : Nat), v]) hp
  refine ⟨_, l2, s2, p, _, rfl, ⟨.inr rfl, upd_same⟩, ?_⟩
  refine Reps.cons ?_ (Reps.one (Rep.mono l2 _ _ rv))
  show V.int _ = V.int _
  simp
theorem zipL_get : ∀ (xs ys : List D) (i : Nat) (d : D), (zipL xs ys)[i]? = some d → ∃ x y, xs[i]? = some x ∧ ys[i]? = some y ∧ d = .tup [x, y]
  | [], _, _, _, h => by simp [zipL] at h
  | _ :: _, [], _, _, h => by simp [zipL] at h
  | x :: xs, y :: ys, 0, d, h => by
    simp [zipL] at h
    exact ⟨x, y, rfl, rfl, h.symm⟩
  | x :: xs, y :: ys, i + 1, d, h => by
    simp only [zipL, List.getElem?_cons_succ] at h
    obtain ⟨a, b, h1, h2, h3⟩ := zipL_get xs ys i d h
    exact ⟨a, b, by simpa using h1, by simpa using h2, h3⟩
theorem zipL_len : ∀ (xs ys : List D), (zipL xs ys).length = min xs.length ys.length
  | [], _ => by simp [zipL]
  | _ :: _, [] => by simp [zipL]
  | x :: xs, y :: ys => by
    simp only [zipL, List.length_cons, zipL_len xs ys]
    omega
theorem it_zip {K : PySem.W.Frag} {R : Rho} {H : Hp} {a b : Addr} {xs ys : List D} {g : Guard} (h : ∀ R2 H2 T2, LeW R H R2 H2 → StOk K R2 T2 H2 → stays g T2 = true → (∃ vs, SqL K H2 a vs ∧ Reps K R2 H2 xs vs) ∧ ∃ us, SqL K H2 b us ∧ Reps K R2 H2 ys us) : ItOk K R H (Itz K a b) (zipL xs ys, g) := by
  intro R2 H2 T2 i l s hs
  obtain ⟨⟨vs, q, r⟩, us, q2, r2⟩ := h R2 H2 T2 l s hs
  refine ⟨fun hi => ⟨vs, us, q, q2, ?_⟩, fun d hd => ?_⟩
  · rw [r.length, r2.length]
    have hi : (zipL xs ys).length ≤ i := hi
    rw [zipL_len] at hi
    omega
  obtain ⟨x, y, hx, hy, rfl⟩ := zipL_get xs ys i d hd
  obtain ⟨v, e, rv⟩ := r.get hx
  obtain ⟨u, e2, ru⟩ := r2.get hy
  refine ⟨⟨vs, us, v, u, q, q2, e, e2⟩, fun z H3 hz => ?_⟩
  obtain ⟨p, v', u', rfl, hp, rfl, h1, h2⟩ := hz
  have k1 := h1 vs q
  have k2 := h2 us q2
  rw [e] at k1
  rw [e2] at k2
  cases k1
  cases k2
  obtain ⟨l2, s2⟩ := s.newFz (o := .tup [v, u]) hp
  exact ⟨_, l2, s2, p, _, rfl, ⟨.inr rfl, upd_same⟩, Reps.cons (Rep.mono l2 _ _ rv) (Reps.one (Rep.mono l2 _ _ ru))⟩
theorem it_zipT {K : PySem.W.Frag} {R : Rho} {H : Hp} {a b : Addr} {xs ys : List D} (h : ∀ R2 H2, LeW R H R2 H2 → (∃ vs, SqT K H2 a vs ∧ Reps K R2 H2 xs vs) ∧ ∃ us, SqT K H2 b us ∧ Reps K R2 H2 ys us) : ItOk K R H (RZ.ItzT K a b) (zipL xs ys, []) := by
  intro R2 H2 T2 i l s hs
  obtain ⟨⟨vs, q, r⟩, us, q2, r2⟩ := h R2 H2 l
  refine ⟨fun hi => ⟨vs, us, q, q2, ?_⟩, fun d hd => ?_⟩
  · rw [r.length, r2.length]
    have hi : (zipL xs ys).length ≤ i := hi
    rw [zipL_len] at hi
    omega
  obtain ⟨x, y, hx, hy, rfl⟩ := zipL_get xs ys i d hd
  obtain ⟨v, e, rv⟩ := r.get hx
  obtain ⟨u, e2, ru⟩ := r2.get hy
  refine ⟨⟨vs, us, v, u, q, q2, e, e2⟩, fun z H3 hz => ?_⟩
  obtain ⟨p, v', u', rfl, hp, rfl, h1, h2⟩ := hz
  have k1 := h1 vs q
  have k2 := h2 us q2
  rw [e] at k1
  rw [e2] at k2
  cases k1
  cases k2
  obtain ⟨l2, s2⟩ := s.newFz (o := .tup [v, u]) hp
  exact ⟨_, l2, s2, p, _, rfl, ⟨.inr rfl, upd_same⟩, Reps.cons (Rep.mono l2 _ _ rv) (Reps.one (Rep.mono l2 _ _ ru))⟩
theorem it_str {K : PySem.W.Frag} {R : Rho} {H : Hp} (z : Str) : ItOk K R H (Its z) (z.cps.toList.map fun c => D.str ⟨#[c]⟩, []) := by
  intro R2 H2 T2 i l s hs
  have el : (z.cps.toList.map fun c => D.str ⟨#[c]⟩).length = z.cps.size := by rw [List.length_map, Array.length_toList]
  refine ⟨fun hi => by rw [el] at hi; exact hi, fun d hd => ?_⟩
  have hi : i < z.cps.size := by
    rw [← el]
    exact (List.getElem?_eq_some_iff.mp hd).1
  refine ⟨hi, fun x H3 hy => ?_⟩
  obtain ⟨rfl, c, h1, rfl⟩ := hy
  rw [List.getElem?_map, Array.getElem?_toList, h1] at hd
  cases hd
  exact ⟨R2, Le.refl _ _, s, rfl⟩

section
variable {X : Cx}
theorem pi_seq {tg e : Expr} {ea : Env → M D} (he : PE X e (rdE X.K ea)) : PI X tg e (rdI X.K fun env => do let x ← ea env; seqWalk x) := by
  refine ⟨fun pins s σ H Rk I h => ?_⟩
  obtain ⟨R, T, env, w, T', st, en, ev, po⟩ := h
  obtain ⟨x, T1, e1, e2⟩ := bind_ok ev
  have lists : ∀ {w T'}, lstWalk x T1 = .ok w T' → (∀ R1 H1 J, Le R H R1 H1 → StOk X.K R1 T' H1 → ItOk X.K R1 H1 J w → Rk J H1) → wpAny (model X.prog X.w) X.A (eval e X.env) (fun v s1 => wpAny (model X.prog X.w) X.A (pyIter v) (PIE X pins σ tg Rk) X.xe s1) X.xe s := by
    intro w T' e2 po
    refine (pi_list (tg := tg) he).run pins s σ H Rk I ⟨R, T, env, x, T1, st, en, e1, fun R1 H1 v l1 s1 r1 => ?_⟩
    obtain ⟨rfl, a, rfl, hq, hw⟩ := lstWalk_at s1 e2 r1
    exact ⟨a, rfl, hq, po R1 H1 _ l1 s1 (it_list fun R2 H2 T2 l s hs => let ⟨vs, q, r⟩ := hw R2 H2 T2 l s hs; ⟨vs, SqL.of q, r⟩)⟩
  cases x with
  | tup xs =>
    cases e2
    refine (pi_tup (tg := tg) he).run pins s σ H Rk I ⟨R, T, env, _, _, st, en, e1, fun R1 H1 v l1 s1 r1 => ?_⟩
    obtain ⟨a, vs, rfl, t, r⟩ := r1
    exact ⟨a, rfl, ⟨vs, t.sqT⟩, po R1 H1 _ l1 s1 (it_tup fun R2 H2 l => ⟨vs, (t.monoW l).sqT, Reps.monoW l _ _ r⟩)⟩
  | str z =>
    cases e2
    refine (pi_str (tg := tg) he).run pins s σ H Rk I ⟨R, T, env, _, _, st, en, e1, fun R1 H1 v l1 s1 r1 => ?_⟩
    exact ⟨z, r1, po R1 H1 _ l1 s1 (it_str z)⟩
  | lab xs =>
    cases e2
    refine (pi_tup (tg := tg) he).run pins s σ H Rk I ⟨R, T, env, _, _, st, en, e1, fun R1 H1 v l1 s1 r1 => ?_⟩
    obtain ⟨a, vs, rfl, t, r⟩ := r1
    exact ⟨a, rfl, ⟨vs, t.sqT⟩, po R1 H1 _ l1 s1 (it_tup fun R2 H2 l => ⟨vs, (t.monoW l).sqT, Reps.monoW l _ _ r⟩)⟩
  | ext t xs =>
    cases e2
    cases t with
    | true =>
      refine (pi_tup (tg := tg) he).run pins s σ H Rk I ⟨R, T, env, _, _, st, en, e1, fun R1 H1 v l1 s1 r1 => ?_⟩
      obtain ⟨a, vs, rfl, t, r⟩ := r1
      have tt : ∀ H2, SqT X.K H2 a vs := fun H2 => by
        rcases t with t | t
        · rcases t with t | ⟨o, t⟩ <;> cases t
        · exact .inr t
      exact ⟨a, rfl, ⟨vs, tt _⟩, po R1 H1 _ l1 s1 (it_tup fun R2 H2 l => ⟨vs, tt _, Reps.monoW l _ _ r⟩)⟩
    | false =>
      refine (pi_list (tg := tg) he).run pins s σ H Rk I ⟨R, T, env, _, _, st, en, e1, fun R1 H1 v l1 s1 r1 => ?_⟩
      obtain ⟨a, vs, rfl, t, r⟩ := r1
      exact ⟨a, rfl, ⟨vs, t.2⟩, po R1 H1 _ l1 s1 (it_list fun R2 H2 T2 l s hs => ⟨vs, (ExtAt.monoW (t := false) t l).2, Reps.monoW l _ _ r⟩)⟩
  | lst xs => exact lists e2 po
  | ref n => exact lists e2 po
  | _ => cases e2
theorem smallI_ok {i : Int} (h : smallI i = true) : -(2 ^ 62) ≤ i ∧ i < 2 ^ 62 := by
  unfold smallI at h
  simpa using h
theorem pi_rng1 {tg a : Expr} {p pos : Pos} {ea : Env → M D} (hg : Gl X "range") (hm : X.mg "range" = none) (ha : PA X [a] (tCons (rdE X.K ea) tNil)) (hs : starEach [a] X.env = [(false, eval a X.env)]) :
    PI X tg (.Call (.Name "range" p) [a] [] pos) (rdI X.K fun env => do let x ← ea env; rng1D x) := by
  refine ⟨fun pins s σ H Rk I h => ?_⟩
  obtain ⟨R, T, env, w, T', st, en, ev, po⟩ := h
  refine (pi_range1 (tg := tg) hg hm ha hs).run pins s σ H Rk I ?_
  refine rd_then (f := fun _ x => rng1D x) st en ev fun x T1 R1 H1 v e1 l1 s1 en1 r1 => ?_
  cases x <;> first | (cases e1; done) | skip
  obtain ⟨hi, rfl, rfl⟩ := okIf_ok e1
  obtain ⟨h1, h2⟩ := smallI_ok hi
  exact ⟨_, by rw [(show v = .int _ from r1)], h1, h2, po R1 H1 _ l1 s1 (it_range _ _)⟩
theorem pi_rng2 {tg a b : Expr} {p pos : Pos} {ea eb : Env → M D} (hg : Gl X "range") (hm : X.mg "range" = none) (ha : PA X [a, b] (tCons (rdE X.K ea) (tCons (rdE X.K eb) tNil))) (hs : starEach [a, b] X.env = [(false, eval a X.env), (false, eval b X.env)]) (hs2 : starEach [b] X.env = [(false, eval b X.env)]) :
    PI X tg (.Call (.Name "range" p) [a, b] [] pos) (rdI X.K fun env => do let x ← ea env; let y ← eb env; rng2D x y) := by
  refine ⟨fun pins s σ H Rk I h => ?_⟩
  obtain ⟨R, T, env, w, T', st, en, ev, po⟩ := h
  refine (pi_range2 (tg := tg) hg hm ha hs hs2).run pins s σ H Rk I ?_
  refine rd_then (f := fun env x => do let y ← eb env; rng2D x y) st en ev fun x T1 R1 H1 v e1 l1 s1 en1 r1 => ?_
  refine rd_then (f := fun _ y => rng2D x y) s1 en1 e1 fun y T2 R2 H2 u e2 l2 s2 en2 r2 => ?_
  cases x <;> first | (cases e2; done) | skip
  cases y <;> first | (cases e2; done) | skip
  obtain ⟨hi, rfl, rfl⟩ := okIf_ok e2
  rw [Bool.and_eq_true] at hi
  obtain ⟨h1, h2⟩ := smallI_ok hi.1
  obtain ⟨h3, h4⟩ := smallI_ok hi.2
  exact ⟨_, _, by rw [(show v = .int _ from r1), (show u = .int _ from r2)], ⟨h1, h2, h3, h4⟩, po R2 H2 _ (l1.trans l2) s2 (it_range _ _)⟩
theorem enumWalk_ok {x : D} {T T' : Store} {w : Walk} (h : enumWalk x T = .ok w T') : ∃ u, lstWalk x T = .ok u T' ∧ w = (enumL 0 u.1, u.2) := by
  unfold enumWalk at h
  split at h
  · rename_i u T2 e
    cases h
    exact ⟨u, e, rfl⟩
  · cases h
theorem pi_enumD {a : Expr} {elts : List Expr} {kk : Nat} {p pos tpos : Pos} {ea : Env → M D} (hg : Gl X "enumerate") (hm : X.mg "enumerate" = none) (ha : PA X [a] (tCons (rdE X.K ea) tNil)) (hs : starEach [a] X.env = [(false, eval a X.env)]) :
    PI X (.Tuple elts kk tpos) (.Call (.Name "enumerate" p) [a] [] pos) (rdI X.K fun env => do let x ← ea env; enumWalk x) := by
  refine ⟨fun pins s σ H Rk I h => ?_⟩
  obtain ⟨R, T, env, w, T', st, en, ev, po⟩ := h
  refine (pi_enum hg hm ha hs).run pins s σ H Rk I ?_
  refine rd_then (f := fun _ x => enumWalk x) st en ev fun x T1 R1 H1 v e1 l1 s1 en1 r1 => ?_
  obtain ⟨u, e2, rfl⟩ := enumWalk_ok e1
  obtain ⟨rfl, b, rfl, ⟨vs, hq⟩, hw⟩ := lstWalk_at s1 e2 r1
  exact ⟨b, vs, rfl, hq, po R1 H1 _ l1 s1 (it_enum fun R2 H2 T2 l s hs => let ⟨vs, q, r⟩ := hw R2 H2 T2 l s hs; ⟨vs, SqL.of q, r⟩)⟩
theorem pi_zipD {a b : Expr} {elts : List Expr} {kk : Nat} {p pos tpos : Pos} {ea eb : Env → M D} (hg : Gl X "zip") (hm : X.mg "zip" = none) (ha : PA X [a, b] (tCons (rdE X.K ea) (tCons (rdE X.K eb) tNil))) (hs : starEach [a, b] X.env = (false, eval a X.env) :: starEach [b] X.env) (hp : (backTo pos (starEach [b] X.env)).any (·.1) = false) :
    PI X (.Tuple elts kk tpos) (.Call (.Name "zip" p) [a, b] [] pos) (rdI X.K fun env => do let x ← ea env; let y ← eb env; zipWalk x y) := by
  refine ⟨fun pins s σ H Rk I h => ?_⟩
  obtain ⟨R, T, env, w, T', st, en, ev, po⟩ := h
  refine (RZ.pi_zipA hg hm ha hs hp).run pins s σ H Rk I ?_
  refine rd_then (f := fun env x => do let y ← eb env; zipWalk x y) st en ev fun x T1 R1 H1 v e1 l1 s1 en1 r1 => ?_
  refine rd_then (f := fun _ y => zipWalk x y) s1 en1 e1 fun y T2 R2 H2 u e2 l2 s2 en2 r2 => ?_
  replace r1 := Rep.mono l2 _ _ r1
  have lists : ∀ w1 w2 T3 T4, lstWalk x T2 = .ok w1 T3 → lstWalk y T2 = .ok w2 T4 → Res.ok (zipL w1.1 w2.1, w1.2 ++ w2.2) T2 = .ok w T' → RZ.iZipA X.K (fun _ H Q => Q [v, u] H) σ H2 Rk := by
    intro w1 w2 T3 T4 q1 q2 q3
    cases q3
    obtain ⟨_, c, rfl, ⟨vs, hq⟩, hw⟩ := lstWalk_at s2 q1 r1
    obtain ⟨_, d, rfl, ⟨us, hq'⟩, hw'⟩ := lstWalk_at s2 q2 r2
    refine ⟨c, d, vs, us, rfl, .inl ⟨hq, hq', po R2 H2 _ (l1.trans l2) s2 (it_zip fun R3 H3 T3 l s hs => ?_)⟩⟩
    obtain ⟨h1, h2⟩ := stays_app hs
    obtain ⟨vs, q, r⟩ := hw R3 H3 T3 l s h1
    obtain ⟨us, q', r'⟩ := hw' R3 H3 T3 l s h2
    exact ⟨⟨vs, SqL.of q, r⟩, us, SqL.of q', r'⟩
  have gen : (∀ xs ys, ¬ (x = .tup xs ∧ y = .tup ys)) → RZ.iZipA X.K (fun _ H Q => Q [v, u] H) σ H2 Rk := by
    intro hn
    have e3 : (match lstWalk x T2, lstWalk y T2 with
      | .ok w _, .ok u _ => Res.ok (zipL w.1 u.1, w.2 ++ u.2) T2
      | _, _ => .bad) = .ok w T' := by
      cases x <;> first | exact e2 | (cases y <;> first | exact e2 | exact absurd ⟨rfl, rfl⟩ (hn _ _))
    cases q1 : lstWalk x T2 with
    | bad => rw [q1] at e3; cases e3
    | ok w1 T3 =>
      cases q2 : lstWalk y T2 with
      | bad => rw [q1, q2] at e3; cases e3
      | ok w2 T4 => rw [q1, q2] at e3; exact lists w1 w2 T3 T4 q1 q2 e3
  by_cases ht : ∃ xs ys, x = .tup xs ∧ y = .tup ys
  · obtain ⟨xs, ys, rfl, rfl⟩ := ht
    cases e2
    obtain ⟨c, vs, rfl, t1, q1⟩ := r1
    obtain ⟨d, us, rfl, t2, q2⟩ := r2
    exact ⟨c, d, vs, us, rfl, .inr ⟨t1.sqT, t2.sqT, po R2 H2 _ (l1.trans l2) s2 (it_zipT fun R3 H3 l => ⟨⟨vs, (t1.monoW l).sqT, Reps.monoW l _ _ q1⟩, us, (t2.monoW l).sqT, Reps.monoW l _ _ q2⟩)⟩⟩
  · exact gen fun xs ys h => ht ⟨xs, ys, h⟩
end
end Pz

set_option Elab.async false
set_option linter.all false
set_option maxRecDepth 100000
set_option maxHeartbeats 1000000
/-! I7: targets, list comprehensions. -/
namespace Pz
open PySem PySem.Spec L2

/-! ### targets -/
mutual
/-- the slots that a target fills -/
def tgS : Tg → List Nat
  | .name i => [i]
  | .tup ts => tgSs ts
def tgSs : List Tg → List Nat
  | [] => []
  | t :: ts => tgS t ++ tgSs ts
end
def isLoc (sc : Scope) (x : Str) : Bool := match sc.names.lookup x with
  | some .local => true
  | some .cell => true
  | _ => false
mutual
/-- a target of the text: c tells whether cells may be filled -/
def chkG (N : List Str) (sc : Scope) (fn : Str → Bool) : Tg → Expr → Bool
  | .name i, .Name x _ => decide (N[i]? = some x) && isLoc sc x && (fn x || decide (sc.names.lookup x = some .local))
  | .tup ts, .Tuple es _ _ => chkGs N sc fn ts es
  | _, _ => false
def chkGs (N : List Str) (sc : Scope) (fn : Str → Bool) : List Tg → List Expr → Bool
  | [], [] => true
  | t :: ts, e :: es => chkG N sc fn t e && chkGs N sc fn ts es
  | _, _ => false
end
section
variable {K : PySem.W.Frag}
/-- what is filled: the other slots stay -/
def Kept (σ σ' : L2.St) (is : List Nat) : Prop := σ'.length = σ.length ∧ ∀ j, j ∉ is → σ'[j]? = σ[j]?
def rdG (K : PySem.W.Frag) (t : Tg) : TG := fun v σ H Q => ∃ R T env d env', StOk K R T H ∧ EnvOk K R H σ env ∧ Rep K R H d v ∧ bindT t d env = some env' ∧ ∀ σ', EnvOk K R H σ' env' → Kept σ σ' (tgS t) → Q σ' H
def rdGs (K : PySem.W.Frag) (ts : List Tg) : TGs := fun vs σ H Q => ∃ R T env ds env', StOk K R T H ∧ EnvOk K R H σ env ∧ Reps K R H ds vs ∧ bindT.all ts ds env = some env' ∧ ∀ σ', EnvOk K R H σ' env' → Kept σ σ' (tgSs ts) → Q σ' H
theorem rd_gname {i : Nat} {v : V} {σ : L2.St} {H : Hp} {Q : L2.St → Hp → Prop} (h : rdG K (.name i) v σ H Q) : gName i v σ H Q := by
  obtain ⟨R, T, env, d, env', st, en, r, e, po⟩ := h
  simp only [bindT] at e
  split at e
  · cases e
    refine po _ (en.set r) ⟨by simp, fun j hj => ?_⟩
    have : j ≠ i := fun z => hj (by simp [tgS, z])
    rw [List.getElem?_set_ne (Ne.symm this)]
  · cases e
theorem rd_gnil {vs : List V} {σ : L2.St} {H : Hp} {Q : L2.St → Hp → Prop} (h : rdGs K [] vs σ H Q) : gNil vs σ H Q := by
  obtain ⟨R, T, env, ds, env', st, en, r, e, po⟩ := h
  cases ds with
  | nil =>
    cases e
    exact ⟨r, po σ en ⟨rfl, fun _ _ => rfl⟩⟩
  | cons d ds => cases e
theorem rd_gcons {t : Tg} {ts : List Tg} {vs : List V} {σ : L2.St} {H : Hp} {Q : L2.St → Hp → Prop} (h : rdGs K (t :: ts) vs σ H Q) : gCons (rdG K t) (rdGs K ts) vs σ H Q := by
  obtain ⟨R, T, env, ds, env', st, en, r, e, po⟩ := h
  cases ds with
  | nil => cases e
  | cons d ds =>
    obtain ⟨v, vr, rfl, r1, r2⟩ := r
    simp only [bindT.all] at e
    cases e1 : bindT t d env with
    | none => rw [e1] at e; cases e
    | some env1 =>
      rw [e1] at e
      refine ⟨v, vr, rfl, R, T, env, d, env1, st, en, r1, e1, fun σ1 en1 k1 => ?_⟩
      refine ⟨R, T, env1, ds, env', st, en1, r2, e, fun σ2 en2 k2 => po σ2 en2 ⟨k2.1.trans k1.1, fun j hj => ?_⟩⟩
      rw [tgSs, List.mem_append, not_or] at hj
      exact (k2.2 j hj.2).trans (k1.2 j hj.1)
theorem bind_len : ∀ (ts : List Tg) (ds : List D) (env env' : Env), bindT.all ts ds env = some env' → ds.length = ts.length
  | [], [], _, _, _ => rfl
  | [], _ :: _, _, _, h => by cases h
  | _ :: _, [], _, _, h => by cases h
  | t :: ts, d :: ds, env, env', h => by
    simp only [bindT.all] at h
    cases e1 : bindT t d env with
    | none => rw [e1] at h; cases h
    | some env1 =>
      rw [e1] at h
      simp [bind_len ts ds env1 env' h]
theorem rd_gtup {ts : List Tg} {v : V} {σ : L2.St} {H : Hp} {Q : L2.St → Hp → Prop} (h : rdG K (.tup ts) v σ H Q) : gTup K ts.length (rdGs K ts) v σ H Q := by
  obtain ⟨R, T, env, d, env', st, en, r, e, po⟩ := h
  cases d <;> first | (cases e; done) | skip
  rename_i ds
  obtain ⟨a, vs, rfl, t, r⟩ := r
  exact ⟨a, vs, rfl, t.sqT, by rw [r.length]; exact bind_len _ _ _ _ e, R, T, env, ds, env', st, en, r, e, po⟩
end
theorem chkG_ne {N : List Str} {sc : Scope} {fn : Str → Bool} {t : Tg} {e : Expr} (h : chkG N sc fn t e = true) (es : List Expr) (env : PySem.Env) : assignEach (e :: es) env = (false, assign e env) :: assignEach es env := by
  cases t <;> cases e <;> first | rfl | (cases h)
theorem chkGs_len {N : List Str} {sc : Scope} {fn : Str → Bool} : ∀ {ts : List Tg} {es : List Expr} {env : PySem.Env}, chkGs N sc fn ts es = true → (assignEach es env).length = ts.length ∧ (assignEach es env).findIdx? (·.1) = none
  | [], [], _, _ => ⟨rfl, rfl⟩
  | [], _ :: _, _, h => by cases h
  | _ :: _, [], _, h => by cases h
  | t :: ts, e :: es, env, h => by
    simp only [chkGs, Bool.and_eq_true] at h
    rw [chkG_ne h.1 es env]
    obtain ⟨h1, h2⟩ := chkGs_len (env := env) h.2
    refine ⟨by simp [h1], ?_⟩
    rw [List.findIdx?_cons]
    simp [h2]
section
variable {X : Cx}
mutual
theorem pg_ok (hc : X.calm = true) (nd : X.N.Nodup) : ∀ (t : Tg) (e : Expr), chkG X.N X.env.scope X.fn t e = true → PG X e (rdG X.K t)
  | .name i, e, h => by
    cases e <;> first | (cases h; done) | skip
    rename_i x p
    simp only [chkG, Bool.and_eq_true, decide_eq_true_eq, Bool.or_eq_true] at h
    obtain ⟨⟨h1, h2⟩, h3⟩ := h
    have hl : Loc X.env.scope x := by
      unfold isLoc at h2
      split at h2
      · exact .inl (by assumption)
      · exact .inr (by assumption)
      · cases h2
    have g := pg_name (pos := p) nd h1 hl h3
    exact ⟨fun pins s σ H v u Q I r hw => g.run pins s σ H v u Q I r (rd_gname hw)⟩
  | .tup ts, e, h => by
    cases e <;> first | (cases h; done) | skip
    rename_i es k p
    obtain ⟨h1, h2⟩ := chkGs_len (env := X.env) h
    have g := pg_tup (pos := p) (k := k) hc (pgs_ok hc nd ts es h) h1 h2
    exact ⟨fun pins s σ H v u Q I r hw => g.run pins s σ H v u Q I r (rd_gtup hw)⟩
theorem pgs_ok (hc : X.calm = true) (nd : X.N.Nodup) : ∀ (ts : List Tg) (es : List Expr), chkGs X.N X.env.scope X.fn ts es = true → PGs X es (rdGs X.K ts)
  | [], es, h => by
    cases es with
    | nil => exact ⟨fun pins s σ H vs us Q I r hw => pgs_nil.run pins s σ H vs us Q I r (rd_gnil hw)⟩
    | cons _ _ => cases h
  | t :: ts, es, h => by
    cases es with
    | nil => cases h
    | cons e es =>
      simp only [chkGs, Bool.and_eq_true] at h
      have g := pgs_cons (pg_ok hc nd t e h.1) (pgs_ok hc nd ts es h.2) (by rw [chkG_ne h.1 es X.env]; rfl)
      exact ⟨fun pins s σ H vs us Q I r hw => g.run pins s σ H vs us Q I r (rd_gcons hw)⟩
end
end

/-! ### comprehensions -/
theorem wipe_at (σ : L2.St) : ∀ (vs : List Nat) (j : Nat), (wipe σ vs)[j]? = if j ∈ vs then (if j < σ.length then some none else none) else σ[j]?
  | [], j => by simp [wipe]
  | v :: vs, j => by
    unfold wipe
    rw [List.getElem?_set, wipe_length, wipe_at σ vs j]
    by_cases h : v = j
    · subst h
      simp
    · have : ¬ j = v := fun z => h z.symm
      simp [h, this]
theorem wipeE_at (env : Env) : ∀ (vs : List Nat) (j : Nat), (wipeE env vs)[j]? = if j ∈ vs then (if j < env.length then some none else none) else env[j]?
  | [], j => by simp [wipeE]
  | v :: vs, j => by
    unfold wipeE
    have hl : ∀ vs, (wipeE env vs).length = env.length := fun vs => by
      induction vs with
      | nil => rfl
      | cons a b ih => unfold wipeE; rw [List.length_set, ih]
    rw [List.getElem?_set, hl, wipeE_at env vs j]
    by_cases h : v = j
    · subst h
      simp
    · have : ¬ j = v := fun z => h z.symm
      simp [h, this]
theorem wipeE_len (env : Env) : ∀ vs, (wipeE env vs).length = env.length
  | [] => rfl
  | v :: vs => by unfold wipeE; rw [List.length_set, wipeE_len env vs]
theorem EnvOk.wipe {K : PySem.W.Frag} {R : Rho} {H : Hp} {σ : L2.St} {env : Env} (h : EnvOk K R H σ env) (vs : List Nat) : EnvOk K R H (L2.wipe σ vs) (wipeE env vs) := by
  refine ⟨by rw [wipe_length, wipeE_len, h.1], fun i d e => ?_⟩
  rw [wipeE_at] at e
  split at e
  · split at e <;> cases e
  · rename_i hi
    obtain ⟨v, e1, r⟩ := h.2 i d e
    exact ⟨v, by rw [wipe_at, if_neg hi]; exact e1, r⟩
theorem wipe_kept {σ σ' : L2.St} {vs is : List Nat} (k : Kept (wipe σ vs) σ' is) (hs : ∀ j ∈ is, j ∈ vs) : wipe σ' vs = wipe σ vs := by
  apply List.ext_getElem?
  intro j
  rw [wipe_at, wipe_at]
  have hl : σ'.length = σ.length := by rw [k.1, wipe_length]
  by_cases h : j ∈ vs
  · rw [if_pos h, if_pos h, hl]
  · rw [if_neg h, if_neg h, k.2 j fun z => h (hs j z), wipe_at, if_neg h]
/-- the heap without an object -/
def less (H : Hp) (p : Addr) : Hp := fun b => if b = p then none else H b
theorem less_same {H : Hp} {p : Addr} : less H p p = none := if_pos rfl
theorem less_ne {H : Hp} {p b : Addr} (h : b ≠ p) : less H p b = H b := if_neg h
theorem upd_less {H : Hp} {p : Addr} {o : HO} (h : H p = some o) : upd (less H p) p o = H := by
  funext b
  by_cases z : b = p
  · subst z
    rw [upd_same, h]
  · rw [upd_ne z, less_ne z]
theorem StOk.backNone {K : PySem.W.Frag} {R : Rho} {T : Store} {H : Hp} (s : StOk K R T H) {p : Addr} {kp : Addr → Prop} (hk : ∀ a, R.kp a ↔ kp a ∨ a = p) (hn : ¬ kp p) :
    LeW R H { R with kp := kp } (less H p) ∧ StOk K { R with kp := kp } T (less H p) := by
  have pk : R.kp p := (hk p).mpr (.inr rfl)
  have nf := (s.kp p pk).1
  have l : LeW R H { R with kp := kp } (less H p) := ⟨⟨[], by simp⟩, fun a h => ⟨h, less_ne fun z => nf (z ▸ h)⟩⟩
  refine ⟨l, ⟨s.len, fun n a c e1 e2 al => ?_, s.inj, fun a h => ?_, fun a h => ?_⟩⟩
  · obtain ⟨c1, c2, c3⟩ := s.cell n a c e1 e2 al
    exact ⟨c1.monoW l (less_ne fun z => c3 (z ▸ pk)), c2, fun q => c3 ((hk a).mpr (.inl q))⟩
  · obtain ⟨u, e⟩ := s.fz a h
    exact ⟨u, (l.fz a h).2.trans e⟩
  · obtain ⟨k1, u, e, nt⟩ := s.kp a ((hk a).mpr (.inl h))
    have na : a ≠ p := fun z => hn (z ▸ h)
    exact ⟨k1, u, (less_ne na).trans e, nt⟩

section
variable {K : PySem.W.Frag}
/-- the turn of a comprehension -/
def compF (t : Tg) (ec : Env → M Bool) (ee : Env → M D) (env0 : Env) (x : D) : M (Option D) := match bindT t x env0 with
  | some env1 => do
    let k ← ec env1
    match k with
    | true => do
      let y ← ee env1
      pure (some y)
    | false => pure none
  | none => fail
theorem rdF_comp {ei : Env → M Walk} {t : Tg} {ec : Env → M Bool} {ee : Env → M D} {own : List Nat} {σ : L2.St} {H : Hp} {Q : VK} (hs : ∀ j ∈ tgS t, j ∈ own)
    (h : rdF K (fun env => do let w ← ei env; let ys ← compL w.2 (compF t ec ee (wipeE env own)) w.1 []; pure (.lst ys)) σ H Q) :
    tLc (rdI K ei) (rdG K t) (rdT K ec) (rdE K ee) own σ H Q := by
  obtain ⟨R, T, env, ds, T', st, en, e, po⟩ := h
  obtain ⟨w, T1, e1, e2⟩ := bind_ok e
  obtain ⟨ys, T2', e3, e4⟩ := bind_ok e2
  obtain ⟨e5, rfl⟩ := pure_ok e4
  cases e5
  refine ⟨R, T, env, w, T1, st, en, e1, fun R1 H1 J l1 s1 it p hp => ?_⟩
  have hkp : ¬ R1.kp p := fun z => by
    obtain ⟨_, u, q, _⟩ := s1.kp p z
    rw [hp] at q
    cases q
  refine ⟨fun i m H2 => ∃ R2 T2 acc vs, LeW R1 H1 R2 H2 ∧ (∀ a, R2.kp a ↔ R1.kp a ∨ a = p) ∧ (∀ a, R1.kp a → H2 a = H1 a) ∧ StOk K R2 T2 H2 ∧ H2 p = some (.lst vs) ∧ Reps K R2 H2 acc.reverse vs ∧ m = (w.1.drop i).length ∧ i ≤ w.1.length ∧
    compL w.2 (compF t ec ee (wipeE env own)) (w.1.drop i) acc T2 = .ok ds T2', ⟨w.1.length, ?_⟩, ?_⟩
  · obtain ⟨l2, s2⟩ := s1.aside (o := .lst []) hp
    refine ⟨_, T1, [], [], l2, fun a => Iff.rfl, fun a ha => upd_ne fun z => hkp (z ▸ ha), s2, upd_same, rfl, by simp, Nat.zero_le _, ?_⟩
    simpa using e3
  · rintro i m H2 ⟨R2, T3, acc, vs, l2, hk, hk1, s2, hq, rr, rfl, hi, ev⟩
    cases hd : w.1.drop i with
    | nil =>
      left
      rw [hd] at ev
      unfold compL at ev
      obtain ⟨hst, rfl, rfl⟩ := okIf_ok ev
      have hl : w.1.length ≤ i := by
        have := congrArg List.length hd
        simp at this
        omega
      refine ⟨(it R2 H2 _ i l2 s2 hst).1 hl, ?_⟩
      obtain ⟨l3, s3⟩ := s2.backNone hk hkp
      have hm : LeW R1 H1 _ _ := l2.trans l3
      have lf : Le R1 H1 { R2 with kp := R1.kp } (less H2 p) := ⟨hm.cell, hm.fz, rfl, fun a ha => (less_ne (show a ≠ p from fun z => hkp (z ▸ ha))).trans (hk1 a ha)⟩
      have := po _ _ p vs (l1.trans lf) s3 less_same (Reps.monoW l3 _ _ rr)
      rw [upd_less hq] at this
      exact this
    | cons x rest =>
      right
      rw [hd] at ev
      unfold compL at ev
      cases hst : stays w.2 T3 with
      | false => rw [hst] at ev; cases ev
      | true =>
        simp only [hst] at ev
        have hx : w.1[i]? = some x := by
          have := congrArg List.head? hd
          simpa [List.head?_drop] using this
        have hlt : i < w.1.length := (List.getElem?_eq_some_iff.mp hx).1
        have hd1 : w.1.drop (i + 1) = rest := by
          have := congrArg List.tail hd
          simpa [List.tail_drop] using this
        obtain ⟨go, yl⟩ := (it R2 H2 T3 i l2 s2 hst).2 x hx
        refine ⟨go, fun H5 => ∃ R2 T2 acc vs, LeW R1 H1 R2 H5 ∧ (∀ a, R2.kp a ↔ R1.kp a ∨ a = p) ∧ (∀ a, R1.kp a → H5 a = H1 a) ∧ StOk K R2 T2 H5 ∧ H5 p = some (.lst vs) ∧ Reps K R2 H5 acc.reverse vs ∧
          compL w.2 (compF t ec ee (wipeE env own)) rest acc T2 = .ok ds T2', ?_, ?_⟩
        · rintro H5 ⟨R5, T5, acc5, vs5, a1, a2, a3, a4, a5, a6, a7⟩
          exact ⟨rest.length, by simp, R5, T5, acc5, vs5, a1, a2, a3, a4, a5, a6, by rw [hd1], hlt, by rw [hd1]; exact a7⟩
        · intro v H3 hy
          obtain ⟨R3, l3, s3, rx⟩ := yl v H3 hy
          have pk : R2.kp p := (hk p).mpr (.inr rfl)
          have q3 : H3 p = some (.lst vs) := (l3.kh p pk).trans hq
          have en3 : EnvOk K R3 H3 (wipe σ own) (wipeE env own) := ((en.mono l1).monoW (l2.trans l3.w)).wipe own
          cases hb : bindT t x (wipeE env own) with
          | none =>
            have : compF t ec ee (wipeE env own) x = fail := by unfold compF; rw [hb]
            rw [this] at ev
            cases ev
          | some env1 =>
            have hf : compF t ec ee (wipeE env own) x = (do
              let k ← ec env1
              match k with
              | true => do
                let y ← ee env1
                pure (some y)
              | false => pure none) := by unfold compF; rw [hb]
            rw [hf] at ev
            refine ⟨R3, T3, _, x, env1, s3, en3, rx, hb, fun σ2 en2 k2 => ⟨wipe_kept k2 hs, ?_⟩⟩
            cases er : (do
              let k ← ec env1
              match k with
              | true => do
                let y ← ee env1
                pure (some y)
              | false => pure none : M (Option D)) T3 with
            | bad => rw [er] at ev; cases ev
            | ok o T4 =>
              rw [er] at ev
              obtain ⟨k, T5, c1, c2⟩ := bind_ok er
              refine ⟨R3, T3, env1, k, T5, s3, en2, c1, fun R5 H5 l5 s5 => ?_⟩
              have hk5 : ∀ a, R5.kp a ↔ R1.kp a ∨ a = p := fun a => by rw [l5.kp, l3.kp]; exact hk a
              have q5 : H5 p = some (.lst vs) := (l5.kh p (by rw [l3.kp]; exact pk)).trans q3
              have kk5 : ∀ a, R1.kp a → H5 a = H1 a := fun a ha => by
                have z2 : R2.kp a := (hk a).mpr (.inl ha)
                rw [l5.kh a (by rw [l3.kp]; exact z2), l3.kh a z2]
                exact hk1 a ha
              have lw5 : LeW R1 H1 R5 H5 := l2.trans (l3.w.trans l5.w)
              cases k with
              | false =>
                refine iteF ?_
                obtain ⟨rfl, rfl⟩ := pure_ok c2
                exact ⟨R5, T5, acc, vs, lw5, hk5, kk5, s5, q5, Reps.monoW (l3.w.trans l5.w) _ _ rr, ev⟩
              | true =>
                refine iteT ?_
                refine rd_then (f := fun _ y => pure (some y)) s5 (en2.mono l5) c2 fun y T6 R6 H6 u c3 l6 s6 en6 r6 => ?_
                obtain ⟨rfl, rfl⟩ := pure_ok c3
                have hk6 : ∀ a, R6.kp a ↔ R1.kp a ∨ a = p := fun a => by rw [l6.kp]; exact hk5 a
                have p5 : R5.kp p := (hk5 p).mpr (.inr rfl)
                have q6 : H6 p = some (.lst vs) := (l6.kh p p5).trans q5
                have r6' : Reps K R6 H6 acc.reverse vs := Reps.monoW (l3.w.trans (l5.w.trans l6.w)) _ _ rr
                have ev2 : (match Nat.blt acc.length sizeLine with
                  | true => compL w.2 (compF t ec ee (wipeE env own)) rest (y :: acc) T6
                  | false => .bad) = .ok ds T2' := ev
                cases hb2 : Nat.blt acc.length sizeLine with
                | false => rw [hb2] at ev2; cases ev2
                | true =>
                  rw [hb2] at ev2
                  refine ⟨vs, q6, ?_, ?_⟩
                  · rw [r6'.length, List.length_reverse]
                    exact blt_lt hb2
                  · obtain ⟨l7, s7⟩ := s6.asideWrite (o := .lst (vs ++ [u])) ((hk6 p).mpr (.inr rfl))
                    refine ⟨R6, T6, y :: acc, vs ++ [u], lw5.trans (l6.w.trans l7), hk6, fun a ha => ?_, s7, upd_same, ?_, ev2⟩
                    · rw [upd_ne (show a ≠ p from fun z => hkp (z ▸ ha)), l6.kh a ((hk5 a).mpr (.inl ha))]
                      exact kk5 a ha
                    · rw [List.reverse_cons]
                      exact (Reps.monoW l7 _ _ r6').append (Reps.one (Rep.monoW l7 _ _ r6))
end
end Pz

set_option Elab.async false
set_option linter.all false
set_option maxRecDepth 100000
set_option maxHeartbeats 1000000
/-! E1: enumerate(zip(a, b)) over two lists. -/
namespace Pz
open PySem PySem.Spec L2

/-- a zip, whatever it keeps -/
abbrev ZipG (h : Heap) (z TI TO : Addr) (f0 : Value) (fl : Bool) : Prop :=
  h.get? z = some { cls := .type "zip", dict := none, data := .fields #[f0, .bool fl, .bool false, .ref TI, .ref TO], slots := #[] }
section
variable {prog : Program} {w : World} {A : Around} {E : Value → Shared → Prop} {s : Shared}
theorem alive_none {a : Addr} {Q : Option Obj → Shared → Prop} (ho : s.heap.get? a = none) (h : Q none s) : wpAny (model prog w) A (loadIfAlive a) Q E s := by
  have h' : Q (s.heap.get? a) s := by rw [ho]; exact h
  exact fun _ _ _ => h'
theorem free_dead {z TI TO T : Addr} {fl : Bool} {Q : Bool → Shared → Prop} (hz : ZipG s.heap z TI TO (rawInt T) fl) (hT : s.heap.get? T = none) (h : Q true s) : wpAny (model prog w) A (Builtin.SmallTypes.ownedTupleIsFree (.ref z)) Q E s := by
  unfold Builtin.SmallTypes.ownedTupleIsFree
  refine wpAny_bind (wpAny_field hz rfl (x := rawInt T) rfl ?_)
  show wpAny _ _ (loadIfAlive ((T : Int).toNat) >>= _) _ _ _
  rw [Int.toNat_natCast]
  refine wpAny_bind (alive_none hT ?_)
  exact wpAny_pure h
theorem free_none {z TI TO : Addr} {fl : Bool} {Q : Bool → Shared → Prop} (hz : ZipG s.heap z TI TO .none fl) (h : Q true s) : wpAny (model prog w) A (Builtin.SmallTypes.ownedTupleIsFree (.ref z)) Q E s := by
  unfold Builtin.SmallTypes.ownedTupleIsFree
  exact wpAny_bind (wpAny_field hz rfl (x := .none) rfl (wpAny_pure h))

theorem zipG_item {z TI TO i1 i2 l1 l2 : Addr} {f0 : Value} {fl : Bool} {k1 k2 : Nat} {xs ys : Array Value} {x y a b : Value} {Q : Value → Shared → Prop} (D : ZipApart z TI TO i1 i2 l1 l2)
    (hz : ZipG s.heap z TI TO f0 fl) (hfree : ∀ (A : Around) (E : Value → Shared → Prop) (Q : Bool → Shared → Prop), Q true s → wpAny (model prog w) A (Builtin.SmallTypes.ownedTupleIsFree (.ref z)) Q E s)
    (hTI : IsPair s.heap TI (.ref i1) (.ref i2)) (hTO : IsPair s.heap TO a b)
    (h1 : s.heap.IsListIter i1 l1 k1) (h2 : s.heap.IsListIter i2 l2 k2) (hl1 : s.heap.IsList l1 xs) (hl2 : s.heap.IsList l2 ys) (hx : xs[k1]? = some x) (hy : ys[k2]? = some y)
    (hQ : ∀ h', ZipG h' z TI TO (rawInt s.heap.objs.size) false → IsPair h' TO x y → h'.IsListIter i1 l1 (k1 + 1) → h'.IsListIter i2 l2 (k2 + 1) → IsPair h' s.heap.objs.size x y → h'.objs.size = s.heap.objs.size + 1 →
      (∀ c o, c ≠ z → c ≠ TO → c ≠ i1 → c ≠ i2 → s.heap.get? c = some o → h'.get? c = some o) → Q (.ref s.heap.objs.size) { s with heap := h' }) :
    wpAny (model prog w) A (Builtin.«zip.__next__» ⟨[.ref z], []⟩) (fun fin s' => ∃ v, fin = .done (.ret v) ∧ Q v s') E s := by
  show wpAny _ _ (field (.ref z) 2 >>= _) _ _ _
  refine wpAny_bind (wpAny_field hz rfl (x := .bool false) rfl ?_)
  show wpAny _ _ (field (.ref z) 3 >>= _) _ _ _
  refine wpAny_bind (wpAny_field hz rfl (x := .ref TI) rfl ?_)
  refine wpAny_bind (wpAny_seqItems hTI rfl ?_)
  show wpAny _ _ (Builtin.SmallTypes.ownedTupleIsFree (.ref z) >>= _) _ _ _
  refine wpAny_bind (hfree _ _ _ ?_)
  simp only [if_true]
  refine wpAny_bind (wpAny_rule ?_)
  refine wpAny_bind (wpAny_field hz rfl (x := .ref TO) rfl ?_)
  refine wpAny_bind (wpAny_setField_rec hz (by simp) fun h₁ hz₁ hs₁ => ?_)
  replace hz₁ : ZipG h₁ z TI TO .ellipsis fl := hz₁
  refine wpAny_bind ?_
  simp only [List.zipIdx_cons, List.zipIdx_nil, List.forIn_cons, List.forIn_nil]
  refine wpAny_bind (wpAny_bind (wpAny_onRaise ?_))
  show wpAny _ _ (Builtin.SmallTypes.nextOf (.ref i1) >>= _) _ _ _
  refine wpAny_bind (wpAny_nextOf_list_item (h1.extBut hs₁.extBut D.i1z) (hl1.extBut hs₁.extBut D.l1z) hx fun h₂ h1₂ hs₂ => wpAny_pure ?_)
  have hTO₂ : IsPair h₂ TO a b := hs₂.extBut _ _ D.TOi1 (hs₁.extBut _ _ D.TOz hTO)
  refine wpAny_bind (wpAny_seqItems hTO₂ rfl ?_)
  refine wpAny_bind (wpAny_updateSeq_pair hTO₂ fun h₃ hTO₃ hs₃ => ?_)
  replace hTO₃ : IsPair h₃ TO x b := hTO₃
  refine wpAny_bind (wpAny_letGo (wpAny_pure ?_))
  refine wpAny_bind (wpAny_bind (wpAny_onRaise ?_))
  show wpAny _ _ (Builtin.SmallTypes.nextOf (.ref i2) >>= _) _ _ _
  refine wpAny_bind (wpAny_nextOf_list_item (((h2.extBut hs₁.extBut D.i2z).extBut hs₂.extBut D.i12.symm).extBut hs₃.extBut D.TOi2.symm)
    (((hl2.extBut hs₁.extBut D.l2z).extBut hs₂.extBut D.l2i1).extBut hs₃.extBut D.l2TO) hy fun h₄ h2₄ hs₄ => wpAny_pure ?_)
  have hTO₄ : IsPair h₄ TO x b := hs₄.extBut _ _ D.TOi2 hTO₃
  refine wpAny_bind (wpAny_seqItems hTO₄ rfl ?_)
  refine wpAny_bind (wpAny_updateSeq_pair hTO₄ fun h₅ hTO₅ hs₅ => ?_)
  replace hTO₅ : IsPair h₅ TO x y := hTO₅
  refine wpAny_bind (wpAny_letGo (wpAny_pure (wpAny_pure ?_)))
  refine wpAny_bind (wpAny_seqItems hTO₅ rfl ?_)
  refine wpAny_bind (wpAny_newTuple ?_)
  have hsz : h₅.objs.size = s.heap.objs.size := by rw [hs₅.1, hs₄.1, hs₃.1, hs₂.1, hs₁.1]
  have hz₅ : ZipG h₅ z TI TO .ellipsis fl := hs₅.extBut _ _ D.TOz.symm (hs₄.extBut _ _ D.i2z.symm (hs₃.extBut _ _ D.TOz.symm (hs₂.extBut _ _ D.i1z.symm hz₁)))
  have hk₅ : ∀ c o, c ≠ z → c ≠ TO → c ≠ i1 → c ≠ i2 → s.heap.get? c = some o → h₅.get? c = some o := fun c o c1 c2 c3 c4 e =>
    hs₅.extBut _ _ c2 (hs₄.extBut _ _ c4 (hs₃.extBut _ _ c2 (hs₂.extBut _ _ c3 (hs₁.extBut _ _ c1 e))))
  have h1₅ : h₅.IsListIter i1 l1 (k1 + 1) := ((h1₂.extBut hs₃.extBut D.TOi1.symm).extBut hs₄.extBut D.i12).extBut hs₅.extBut D.TOi1.symm
  have h2₅ : h₅.IsListIter i2 l2 (k2 + 1) := h2₄.extBut hs₅.extBut D.TOi2.symm
  have hzlt : z < h₅.objs.size := Heap.lt_size hz₅
  have hTOlt : TO < h₅.objs.size := Heap.lt_size hTO₅
  have hi1lt : i1 < h₅.objs.size := by obtain ⟨_, e, _⟩ := h1₅; exact Heap.lt_size e
  have hi2lt : i2 < h₅.objs.size := by obtain ⟨_, e, _⟩ := h2₅; exact Heap.lt_size e
  show wpAny _ _ (Builtin.SmallTypes.ownedTupleHandOut (.ref z) (.ref h₅.objs.size) >>= _) _ _ _
  refine wpAny_bind ?_
  unfold Builtin.SmallTypes.ownedTupleHandOut
  have hz₆ : ZipG (h₅.push { cls := .type "tuple", data := .seq #[x, y] }) z TI TO .ellipsis fl := Heap.get?_push_of_some _ hz₅
  refine wpAny_bind (wpAny_setField_rec hz₆ (by simp) fun h₇ hz₇ hs₇ => ?_)
  replace hz₇ : ZipG h₇ z TI TO (rawInt h₅.objs.size) fl := hz₇
  refine wpAny_setField_rec hz₇ (by simp) fun h₈ hz₈ hs₈ => ?_
  replace hz₈ : ZipG h₈ z TI TO (rawInt h₅.objs.size) false := hz₈
  have up : ∀ c o, c ≠ z → h₅.get? c = some o → h₈.get? c = some o := fun c o c1 e => hs₈.extBut _ _ c1 (hs₇.extBut _ _ c1 (Heap.get?_push_of_some _ e))
  have hT₈ : IsPair h₈ h₅.objs.size x y := hs₈.extBut _ _ (Nat.ne_of_gt hzlt) (hs₇.extBut _ _ (Nat.ne_of_gt hzlt) (Heap.get?_push_size _ rfl))
  have hz8 : h₈.objs.size = h₅.objs.size + 1 := by rw [hs₈.1, hs₇.1, Heap.size_push]
  rw [hsz] at hz₈ hT₈ hz8
  refine wpAny_pure ⟨_, rfl, ?_⟩
  show Q (.ref h₅.objs.size) _
  rw [hsz]
  exact hQ h₈ hz₈ (up _ _ D.TOz hTO₅) (h1₅.at fun o e => up _ o D.i1z e) (h2₅.at fun o e => up _ o D.i2z e) hT₈ hz8 fun c o c1 c2 c3 c4 e => up c o c1 (hk₅ c o c1 c2 c3 c4 e)

theorem zipG_end {z TI TO i1 i2 l1 l2 : Addr} {f0 : Value} {fl : Bool} {k1 k2 : Nat} {xs ys : Array Value} {a b : Value} {Q : Fin → Shared → Prop} (hh : A.handled = none) (D : ZipApart z TI TO i1 i2 l1 l2)
    (hz : ZipG s.heap z TI TO f0 fl) (hfree : ∀ (A : Around) (E : Value → Shared → Prop) (Q : Bool → Shared → Prop), Q true s → wpAny (model prog w) A (Builtin.SmallTypes.ownedTupleIsFree (.ref z)) Q E s)
    (hTI : IsPair s.heap TI (.ref i1) (.ref i2)) (hTO : IsPair s.heap TO a b)
    (h1 : s.heap.IsListIter i1 l1 k1) (h2 : s.heap.IsListIter i2 l2 k2) (hl1 : s.heap.IsList l1 xs) (hl2 : s.heap.IsList l2 ys) (hend : xs[k1]? = none ∨ ys[k2]? = none)
    (hE : ∀ h' e, (∀ c o, c ≠ z → c ≠ TO → c ≠ i1 → c ≠ i2 → s.heap.get? c = some o → h'.get? c = some o) → (∃ o, h'.get? e = some o ∧ o.cls = .type "StopIteration") → E (.ref e) { s with heap := h' }) :
    wpAny (model prog w) A (Builtin.«zip.__next__» ⟨[.ref z], []⟩) Q E s := by
  show wpAny _ _ (field (.ref z) 2 >>= _) _ _ _
  refine wpAny_bind (wpAny_field hz rfl (x := .bool false) rfl ?_)
  show wpAny _ _ (field (.ref z) 3 >>= _) _ _ _
  refine wpAny_bind (wpAny_field hz rfl (x := .ref TI) rfl ?_)
  refine wpAny_bind (wpAny_seqItems hTI rfl ?_)
  show wpAny _ _ (Builtin.SmallTypes.ownedTupleIsFree (.ref z) >>= _) _ _ _
  refine wpAny_bind (hfree _ _ _ ?_)
  simp only [if_true]
  refine wpAny_bind (wpAny_rule ?_)
  refine wpAny_bind (wpAny_field hz rfl (x := .ref TO) rfl ?_)
  refine wpAny_bind (wpAny_setField_rec hz (by simp) fun h₁ hz₁ hs₁ => ?_)
  replace hz₁ : ZipG h₁ z TI TO .ellipsis fl := hz₁
  refine wpAny_bind ?_
  simp only [List.zipIdx_cons, List.zipIdx_nil, List.forIn_cons, List.forIn_nil]
  refine wpAny_bind (wpAny_bind (wpAny_onRaise ?_))
  show wpAny _ _ (Builtin.SmallTypes.nextOf (.ref i1) >>= _) _ _ _
  cases hx : xs[k1]? with
  | none =>
    refine wpAny_bind (wpAny_nextOf_list_end hh (h1.extBut hs₁.extBut D.i1z) (hl1.extBut hs₁.extBut D.l1z) hx fun h₂ e hs₂ he => ?_)
    obtain ⟨oe, hoe, hce⟩ := he
    have hz₂ : ZipG h₂ z TI TO .ellipsis fl := hs₂ _ _ D.i1z.symm hz₁
    have hez : e ≠ z := fun x => by subst x; rw [hz₂] at hoe; cases hoe; simp at hce
    refine wpAny_setField_rec hz₂ (by simp) fun h₃ _ hs₃ => hE h₃ e (fun c o c1 _ c3 _ x => hs₃.extBut _ _ c1 (hs₂ _ _ c3 (hs₁.extBut _ _ c1 x))) ⟨oe, hs₃.extBut _ _ hez hoe, hce⟩
  | some x =>
    have hy : ys[k2]? = none := by rcases hend with h | h; rw [hx] at h; cases h; exact h
    refine wpAny_bind (wpAny_nextOf_list_item (h1.extBut hs₁.extBut D.i1z) (hl1.extBut hs₁.extBut D.l1z) hx fun h₂ h1₂ hs₂ => wpAny_pure ?_)
    have hTO₂ : IsPair h₂ TO a b := hs₂.extBut _ _ D.TOi1 (hs₁.extBut _ _ D.TOz hTO)
    refine wpAny_bind (wpAny_seqItems hTO₂ rfl ?_)
    refine wpAny_bind (wpAny_updateSeq_pair hTO₂ fun h₃ hTO₃ hs₃ => ?_)
    refine wpAny_bind (wpAny_letGo (wpAny_pure ?_))
    refine wpAny_bind (wpAny_bind (wpAny_onRaise ?_))
    show wpAny _ _ (Builtin.SmallTypes.nextOf (.ref i2) >>= _) _ _ _
    refine wpAny_bind (wpAny_nextOf_list_end hh (((h2.extBut hs₁.extBut D.i2z).extBut hs₂.extBut D.i12.symm).extBut hs₃.extBut D.TOi2.symm)
      (((hl2.extBut hs₁.extBut D.l2z).extBut hs₂.extBut D.l2i1).extBut hs₃.extBut D.l2TO) hy fun h₄ e hs₄ he => ?_)
    obtain ⟨oe, hoe, hce⟩ := he
    have hz₄ : ZipG h₄ z TI TO .ellipsis fl := hs₄ _ _ D.i2z.symm (hs₃.extBut _ _ D.TOz.symm (hs₂.extBut _ _ D.i1z.symm hz₁))
    have hez : e ≠ z := fun x => by subst x; rw [hz₄] at hoe; cases hoe; simp at hce
    refine wpAny_setField_rec hz₄ (by simp) fun h₅ _ hs₅ => hE h₅ e (fun c o c1 c2 c3 c4 x => hs₅.extBut _ _ c1 (hs₄ _ _ c4 (hs₃.extBut _ _ c2 (hs₂.extBut _ _ c3 (hs₁.extBut _ _ c1 x))))) ⟨oe, hs₅.extBut _ _ hez hoe, hce⟩

/-- the zip's state between two turns -/
def ZSt (h : Heap) (z TI TO i1 i2 l1 l2 : Addr) (i : Nat) : Prop :=
  (∃ f0 fl, ZipG h z TI TO f0 fl ∧ (f0 = .none ∨ ∃ T : Addr, f0 = rawInt T)) ∧ IsPair h TI (.ref i1) (.ref i2) ∧ (∃ a b, IsPair h TO a b) ∧ h.IsListIter i1 l1 i ∧ h.IsListIter i2 l2 i
theorem zst_item {z TI TO i1 i2 l1 l2 : Addr} {i : Nat} {xs ys : Array Value} {x y : Value} {Q : Value → Shared → Prop} (D : ZipApart z TI TO i1 i2 l1 l2) (st : ZSt s.heap z TI TO i1 i2 l1 l2 i)
    (hl1 : s.heap.IsList l1 xs) (hl2 : s.heap.IsList l2 ys) (hx : xs[i]? = some x) (hy : ys[i]? = some y)
    (hQ : ∀ h', ZSt h' z TI TO i1 i2 l1 l2 (i + 1) → IsPair h' s.heap.objs.size x y → h'.objs.size = s.heap.objs.size + 1 →
      (∀ c o, c ≠ z → c ≠ TO → c ≠ i1 → c ≠ i2 → s.heap.get? c = some o → h'.get? c = some o) → Q (.ref s.heap.objs.size) { s with heap := h' }) :
    wpAny (model prog w) A (Builtin.«zip.__next__» ⟨[.ref z], []⟩) (fun fin s' => ∃ v, fin = .done (.ret v) ∧ Q v s') E s := by
  obtain ⟨⟨f0, fl, hz, hf⟩, hTI, ⟨a, b, hTO⟩, h1, h2⟩ := st
  have fr : (∀ (A : Around) (E : Value → Shared → Prop) (Q : Bool → Shared → Prop), Q true s → wpAny (model prog w) A (Builtin.SmallTypes.ownedTupleIsFree (.ref z)) Q E s) → wpAny (model prog w) A (Builtin.«zip.__next__» ⟨[.ref z], []⟩) (fun fin s' => ∃ v, fin = .done (.ret v) ∧ Q v s') E s := fun hfree =>
    zipG_item D hz hfree hTI hTO h1 h2 hl1 hl2 hx hy fun h' a1 a2 a3 a4 a5 a6 hk => hQ h' ⟨⟨_, _, a1, .inr ⟨_, rfl⟩⟩, hk _ _ D.TIz D.TITO D.TIi1 D.TIi2 hTI, ⟨_, _, a2⟩, a3, a4⟩ a5 a6 hk
  rcases hf with rfl | ⟨T, rfl⟩
  · exact fr fun A E Q h => free_none hz h
  · cases hT : s.heap.get? T with
    | none => exact fr fun A E Q h => free_dead hz hT h
    | some oT =>
      refine zip_next_item_held D (f := fl) hz hT hTI h1 h2 hl1 hl2 hx hy fun h' a1 a3 a4 a5 a6 hk => ?_
      exact hQ h' ⟨⟨_, _, a1, .inr ⟨T, rfl⟩⟩, hk _ _ D.TIz D.TIi1 D.TIi2 hTI, ⟨a, b, hk _ _ D.TOz D.TOi1 D.TOi2 hTO⟩, a3, a4⟩ a5 a6 fun c o c1 _ c3 c4 e => hk c o c1 c3 c4 e
theorem zst_end {z TI TO i1 i2 l1 l2 : Addr} {i : Nat} {xs ys : Array Value} {Q : Fin → Shared → Prop} (hh : A.handled = none) (D : ZipApart z TI TO i1 i2 l1 l2) (st : ZSt s.heap z TI TO i1 i2 l1 l2 i)
    (hl1 : s.heap.IsList l1 xs) (hl2 : s.heap.IsList l2 ys) (hend : xs[i]? = none ∨ ys[i]? = none)
    (hE : ∀ h' e, (∀ c o, c ≠ z → c ≠ TO → c ≠ i1 → c ≠ i2 → s.heap.get? c = some o → h'.get? c = some o) → (∃ o, h'.get? e = some o ∧ o.cls = .type "StopIteration") → E (.ref e) { s with heap := h' }) :
    wpAny (model prog w) A (Builtin.«zip.__next__» ⟨[.ref z], []⟩) Q E s := by
  obtain ⟨⟨f0, fl, hz, hf⟩, hTI, ⟨a, b, hTO⟩, h1, h2⟩ := st
  rcases hf with rfl | ⟨T, rfl⟩
  · exact zipG_end hh D hz (fun A E Q h => free_none hz h) hTI hTO h1 h2 hl1 hl2 hend hE
  · cases hT : s.heap.get? T with
    | none => exact zipG_end hh D hz (fun A E Q h => free_dead hz hT h) hTI hTO h1 h2 hl1 hl2 hend hE
    | some oT => exact zip_next_end_held hh D (f := fl) hz hT hTI h1 h2 hl1 hl2 hend fun h' e hk he => hE h' e (fun c o c1 _ c3 c4 q => hk c o c1 c3 c4 q) he
theorem ZSt.keep {h h' : Heap} {z TI TO i1 i2 l1 l2 : Addr} {i : Nat} (st : ZSt h z TI TO i1 i2 l1 l2 i) (k : ∀ c o, c = z ∨ c = TI ∨ c = TO ∨ c = i1 ∨ c = i2 → h.get? c = some o → h'.get? c = some o) : ZSt h' z TI TO i1 i2 l1 l2 i := by
  obtain ⟨⟨f0, fl, hz, hf⟩, hTI, ⟨a, b, hTO⟩, h1, h2⟩ := st
  exact ⟨⟨f0, fl, k _ _ (.inl rfl) hz, hf⟩, k _ _ (.inr (.inl rfl)) hTI, ⟨a, b, k _ _ (.inr (.inr (.inl rfl))) hTO⟩, h1.at fun o q => k _ o (.inr (.inr (.inr (.inl rfl)))) q, h2.at fun o q => k _ o (.inr (.inr (.inr (.inr rfl)))) q⟩
theorem ZSt.typeIs {z TI TO i1 i2 l1 l2 : Addr} {i : Nat} (st : ZSt s.heap z TI TO i1 i2 l1 l2 i) : s.TypeIs (.ref z) "zip" := by
  obtain ⟨⟨f0, fl, hz, hf⟩, _⟩ := st
  exact ⟨_, hz, rfl⟩
theorem zst_nextOf {z TI TO i1 i2 l1 l2 : Addr} {i : Nat} {xs ys : Array Value} {x y : Value} {Q : Value → Shared → Prop} (D : ZipApart z TI TO i1 i2 l1 l2) (st : ZSt s.heap z TI TO i1 i2 l1 l2 i)
    (hl1 : s.heap.IsList l1 xs) (hl2 : s.heap.IsList l2 ys) (hx : xs[i]? = some x) (hy : ys[i]? = some y)
    (hQ : ∀ h', ZSt h' z TI TO i1 i2 l1 l2 (i + 1) → IsPair h' s.heap.objs.size x y → h'.objs.size = s.heap.objs.size + 1 →
      (∀ c o, c ≠ z → c ≠ TO → c ≠ i1 → c ≠ i2 → s.heap.get? c = some o → h'.get? c = some o) → Q (.ref s.heap.objs.size) { s with heap := h' }) :
    wpAny (model prog w) A (Builtin.SmallTypes.nextOf (.ref z)) Q E s := by
  unfold Builtin.SmallTypes.nextOf
  exact wpAny_bind (wpAny_callSpecial?_slot (name := Str.ofString "__next__") st.typeIs F.slot_zip_next
    (wpAny_call_entry F.slot_zip_next st.typeIs F.entry_zip_next (zst_item D st hl1 hl2 hx hy fun h' a1 a2 a3 a4 => wpAny_pure (hQ h' a1 a2 a3 a4)) (F.args_zip_next_1 _)))
theorem zst_nextEnd {z TI TO i1 i2 l1 l2 : Addr} {i : Nat} {xs ys : Array Value} {Q : Value → Shared → Prop} (hh : A.handled = none) (D : ZipApart z TI TO i1 i2 l1 l2) (st : ZSt s.heap z TI TO i1 i2 l1 l2 i)
    (hl1 : s.heap.IsList l1 xs) (hl2 : s.heap.IsList l2 ys) (hend : xs[i]? = none ∨ ys[i]? = none)
    (hE : ∀ h' e, (∀ c o, c ≠ z → c ≠ TO → c ≠ i1 → c ≠ i2 → s.heap.get? c = some o → h'.get? c = some o) → (∃ o, h'.get? e = some o ∧ o.cls = .type "StopIteration") → E (.ref e) { s with heap := h' }) :
    wpAny (model prog w) A (Builtin.SmallTypes.nextOf (.ref z)) Q E s := by
  unfold Builtin.SmallTypes.nextOf
  exact wpAny_bind (wpAny_callSpecial?_slot (name := Str.ofString "__next__") st.typeIs F.slot_zip_next
    (wpAny_call_entry F.slot_zip_next st.typeIs F.entry_zip_next (zst_end hh D st hl1 hl2 hend hE) (F.args_zip_next_1 _)))

/-- enumerate's step, over what its iterator's step does -/
theorem enumN_item {e it : Addr} {c : Int} {old x : Value} {N : Heap → Prop} {Q : Value → Shared → Prop} (he : IsEnum s.heap e it c old) (hN : ∀ h₁, N h₁ → IsEnum h₁ e it c old)
    (hn : ∀ {A : Around} {E : Value → Shared → Prop} {Q : Value → Shared → Prop}, (∀ h₁, N h₁ → Q x { s with heap := h₁ }) → wpAny (model prog w) A (Builtin.SmallTypes.nextOf (.ref it)) Q E s)
    (hQ : ∀ h₁ h', N h₁ → IsEnumOut h' e it (c + 1) x h₁.objs.size → h'.get? h₁.objs.size = some { cls := .type "tuple", data := .seq #[.int c s.toks, x] } →
      (∀ b o, b ≠ e → h₁.get? b = some o → h'.get? b = some o) → Q (.ref h₁.objs.size) { s with heap := h', toks := s.toks + 1 }) :
    wpAny (model prog w) A (Builtin.«enumerate.__next__» ⟨[.ref e], []⟩) (fun fin s' => ∃ v, fin = .done (.ret v) ∧ Q v s') E s := by
  obtain ⟨hp, g, d, tk, os⟩ := s
  show wpAny _ _ (field (.ref e) 2 >>= _) _ _ _
  refine wpAny_bind (wpAny_field he rfl (x := .ref it) rfl ?_)
  refine wpAny_bind (hn fun h₁ n1 => ?_)
  have he1 := hN h₁ n1
  show wpAny _ _ (field (.ref e) 3 >>= _) _ _ ⟨h₁, g, d, tk, os⟩
  refine wpAny_bind (wpAny_field he1 rfl (x := rawInt c) rfl ?_)
  show wpAny _ _ (field (.ref e) 4 >>= _) _ _ ⟨h₁, g, d, tk, os⟩
  refine wpAny_bind (wpAny_field he1 rfl (x := .none) rfl ?_)
  show wpAny _ _ (mkInt c >>= _) _ _ ⟨h₁, g, d, tk, os⟩
  refine wpAny_bind (wpAny_mkInt ?_)
  show wpAny _ _ (setField (.ref e) 3 (rawInt (c + 1)) >>= _) _ _ ⟨h₁, g, d, tk + 1, os⟩
  refine wpAny_bind (wpAny_setField_rec he1 (by simp) fun h₂ he₂ hs₂ => ?_)
  replace hs₂ : Heap.SameBut e h₁ h₂ := hs₂
  replace he₂ : IsEnum h₂ e it (c + 1) old := he₂
  show wpAny _ _ (setField (.ref e) 4 .none >>= _) _ _ ⟨h₂, g, d, tk + 1, os⟩
  refine wpAny_bind (wpAny_setField_rec he₂ (by simp) fun h₃ he₃ hs₃ => ?_)
  replace hs₃ : Heap.SameBut e h₂ h₃ := hs₃
  replace he₃ : IsEnum h₃ e it (c + 1) old := he₃
  show wpAny _ _ (newTuple [.int c tk, x] >>= _) _ _ ⟨h₃, g, d, tk + 1, os⟩
  refine wpAny_bind (wpAny_newTuple ?_)
  have he₄ : IsEnum (h₃.push { cls := .type "tuple", data := .seq #[.int c tk, x] }) e it (c + 1) old := Heap.get?_push_of_some _ he₃
  generalize hh₄ : h₃.push { cls := .type "tuple", data := .seq #[.int c tk, x] } = h₄ at he₄
  have hsz : h₃.objs.size = h₁.objs.size := by rw [hs₃.1, hs₂.1]
  have hel : e < h₁.objs.size := Heap.lt_size he1
  have ht₄ : h₄.get? h₁.objs.size = some { cls := .type "tuple", data := .seq #[.int c tk, x] } := by rw [← hh₄, ← hsz]; exact Heap.get?_push_size _ rfl
  have hk₄ : ∀ b o, b ≠ e → h₁.get? b = some o → h₄.get? b = some o := fun b o hbe hb => by
    rw [← hh₄]; exact Heap.get?_push_of_some _ (hs₃.extBut b o hbe (hs₂.extBut b o hbe hb))
  show wpAny _ _ (Builtin.SmallTypes.ownedTupleIsFree (.ref e) >>= _) _ _ ⟨h₄, g, d, tk + 1, os⟩
  rw [hsz]
  clear hh₄ he₃ hs₃ he₂ hs₂ hsz h₃ h₂
  refine wpAny_bind ?_
  · unfold Builtin.SmallTypes.ownedTupleIsFree
    refine wpAny_bind (wpAny_field he₄ rfl (x := .none) rfl (wpAny_pure ?_))
    simp only [if_true]
    refine wpAny_bind (wpAny_rule ?_)
    refine wpAny_bind (wpAny_field he₄ rfl (x := old) rfl ?_)
    refine wpAny_bind (wpAny_setField_rec he₄ (by simp) fun h₅ he₅ hs₅ => ?_)
    replace hs₅ : Heap.SameBut e h₄ h₅ := hs₅
    replace he₅ : IsEnum h₅ e it (c + 1) x := he₅
    show wpAny _ _ (Builtin.SmallTypes.ownedTupleHandOut (.ref e) (.ref h₁.objs.size) >>= _) _ _ ⟨h₅, g, d, tk + 1, os⟩
    refine wpAny_bind ?_
    · unfold Builtin.SmallTypes.ownedTupleHandOut
      refine wpAny_bind (wpAny_setField_rec he₅ (by simp) fun h₆ he₆ hs₆ => ?_)
      replace hs₆ : Heap.SameBut e h₅ h₆ := hs₆
      replace he₆ : IsEnumOut h₆ e it (c + 1) x h₁.objs.size := he₆
      refine wpAny_setField_rec he₆ (by simp) fun h₇ he₇ hs₇ => ?_
      replace hs₇ : Heap.SameBut e h₆ h₇ := hs₇
      replace he₇ : IsEnumOut h₇ e it (c + 1) x h₁.objs.size := he₇
      refine wpAny_bind (wpAny_letGo (wpAny_pure ⟨_, rfl, hQ h₁ h₇ n1 he₇ ?_ ?_⟩))
      · exact hs₇.extBut _ _ (Nat.ne_of_gt hel) (hs₆.extBut _ _ (Nat.ne_of_gt hel) (hs₅.extBut _ _ (Nat.ne_of_gt hel) ht₄))
      · exact fun b o hbe hb => hs₇.extBut b o hbe (hs₆.extBut b o hbe (hs₅.extBut b o hbe (hk₄ b o hbe hb)))
/-- enumerate(z), z a zip -/
theorem call_enumerate_zip {z TI TO : Addr} {Q : Value → Shared → Prop} (hz : IsZip s.heap z TI TO .none)
    (h : ∀ h', IsEnum h' s.heap.objs.size z 0 .none → (∀ b o, s.heap.get? b = some o → h'.get? b = some o) → Q (.ref s.heap.objs.size) { s with heap := h' }) :
    wpAny (model prog w) A (call (.type "enumerate") [.ref z]) Q E s := by
  have m : Meets (Builtin.«enumerate.__new__» ⟨[.type "enumerate", .ref z], []⟩) (fun _ R s => IsZip s.heap z TI TO .none ∧
      R (.ok (.ret (.ref s.heap.objs.size))) { s with heap := s.heap.push { cls := .type "enumerate", data := .fields #[.none, .bool false, .ref z, rawInt 0, .none, .none] } }) :=
    .of_wp fun prog w A R s h => by
      obtain ⟨hp, g, d, tk, os⟩ := s; obtain ⟨hz, h⟩ := h
      have hsub := sub_enumerate
      have q1 : ∀ {A' : Around} {E : Value → Shared → Prop} {Q : Value → Shared → Prop}, Q (.ref z) ⟨hp, g, d, tk, os⟩ → wpAny (model prog w) A' (pyIter (.ref z)) Q E ⟨hp, g, d, tk, os⟩ :=
        fun q => wpAny_pyIter_zip (s := ⟨hp, g, d, tk, os⟩) hz q
      have hl : (Shared.heap ⟨hp, g, d, tk, os⟩).get? z = some _ := hz
      wp_walk using AutoSeq1.wpAny_loadPart' hl, q1
      refine wpAny_stack_any fun st => wpAny_pure ?_
      split
      · rename_i c _ _ _ _ _
        cases (c == Value.type "enumerate")
        · wp_walk using AutoSeq1.wpAny_loadPart' hl, q1
          exact ⟨_, rfl, h⟩
        · wp_walk using AutoSeq1.wpAny_loadPart' hl, q1
          exact ⟨_, rfl, h⟩
      · wp_walk using AutoSeq1.wpAny_loadPart' hl, q1
        exact ⟨_, rfl, h⟩
  refine callType_new F.called_enumerate (by decide) (F.typeCall_enumerate_1 _) (F.newCall_enumerate_1 _) (fun obj => F.args_object_init_2 obj _) F.entry_enumerate_new m ⟨hz, ?_⟩
  have he : IsEnum (s.heap.push { cls := .type "enumerate", data := .fields #[.none, .bool false, .ref z, rawInt 0, .none, .none] }) s.heap.objs.size z 0 .none := Heap.get?_push_size _ rfl
  exact ⟨⟨_, he, rfl⟩, h _ he fun b o x => Heap.get?_push_of_some _ x⟩
end

/-- the pairs of two lists, counted -/
def ItEz (K : PySem.W.Frag) (a b : Addr) : It :=
  ⟨(Itz K a b).go, fun i H v H' => ∃ T1 T2 x y, v = .ref T2 ∧ H T1 = none ∧ H T2 = none ∧ T2 ≠ T1 ∧ H' = upd (upd H T1 (.tup [x, y])) T2 (.tup [.int (i : Nat), .ref T1]) ∧ (∀ xs, SqL K H a xs → xs[i]? = some x) ∧ ∀ ys, SqL K H b ys → ys[i]? = some y, (Itz K a b).stop⟩
theorem fpUpd {X : Cx} {pins : List (Addr × Obj)} {H : Hp} {b T : Addr} {ob : HO} (f : FpOk X pins H b) (h : b ≠ T) : FpOk X pins (upd H T ob) b := ⟨by rw [upd_ne h]; exact f.1, f.2⟩
theorem turn_ez {P : Program} {w : World} {K : PySem.W.Frag} {elts : List Expr} {kk : Nat} {tpos : Pos} {a b e z TI TO i1 i2 : Addr} (D : ZipApart z TI TO i1 i2 a b) (n0 : e ≠ z) (n1 : e ≠ TI) (n2 : e ≠ TO) (n3 : e ≠ i1) (n4 : e ≠ i2) :
    Turn P w K (.Tuple elts kk tpos) (ItEz K a b) [e, z, TI, TO, i1, i2] e (fun i h => (∃ old, IsEnum h e z ((i : Nat) : Int) old) ∧ ZSt h z TI TO i1 i2 a b i) where
  mem := by simp
  obj := fun i h st c hc => by
    obtain ⟨⟨old, he⟩, ⟨f0, fl, hz, _⟩, hTI, ⟨x, y, hTO⟩, ⟨o1, e1, _, d1⟩, ⟨o2, e2, _, d2⟩⟩ := st
    have e' : c = e ∨ c = z ∨ c = TI ∨ c = TO ∨ c = i1 ∨ c = i2 := by simpa using hc
    rcases e' with q | q | q | q | q | q
    · rw [q]; exact ⟨_, he, fun v q => nomatch q⟩
    · rw [q]; exact ⟨_, hz, fun v q => nomatch q⟩
    · rw [q]; exact ⟨_, hTI, fun v q => nomatch q⟩
    · rw [q]; exact ⟨_, hTO, fun v q => nomatch q⟩
    · rw [q]; exact ⟨o1, e1, fun v q => by rw [d1] at q; cases q⟩
    · rw [q]; exact ⟨o2, e2, fun v q => by rw [d2] at q; cases q⟩
  keep := fun i h h' st k => by
    obtain ⟨⟨old, he⟩, st⟩ := st
    exact ⟨⟨old, k e (by simp) _ he⟩, st.keep fun c o hc q => k c (by rcases hc with z | z | z | z | z <;> simp [z]) o q⟩
  item := by
    intro X hP hw hK hc i pins s σ H E I hf st hg
    subst hP hw hK
    obtain ⟨⟨old, he⟩, st⟩ := st
    obtain ⟨xs, ys, x, y, hqx, hqy, hx, hy⟩ := hg
    obtain ⟨its, rv, p, _⟩ := I.list hqx
    obtain ⟨its2, rv2, p2, _⟩ := I.list hqy
    obtain ⟨u, hu, ru⟩ := rv.get hx
    obtain ⟨u2, hu2, ru2⟩ := rv2.get hy
    have hlt : ∀ c, c ∈ [e, z, TI, TO, i1, i2] → c < s.heap.objs.size := fun c hcm => by
      obtain ⟨⟨f0, fl, hz, _⟩, hTI, ⟨x, y, hTO⟩, ⟨o1, e1, _⟩, ⟨o2, e2, _⟩⟩ := st
      have e' : c = e ∨ c = z ∨ c = TI ∨ c = TO ∨ c = i1 ∨ c = i2 := by simpa using hcm
      rcases e' with q | q | q | q | q | q
      · rw [q]; exact Heap.lt_size he
      · rw [q]; exact Heap.lt_size hz
      · rw [q]; exact Heap.lt_size hTI
      · rw [q]; exact Heap.lt_size hTO
      · rw [q]; exact Heap.lt_size e1
      · rw [q]; exact Heap.lt_size e2
    have hel := hlt e (by simp)
    have hTy : s.TypeIs (.ref e) "enumerate" := ⟨_, he, rfl⟩
    unfold pyNext
    refine wpAny_bind (wpAny_attempt (wpAny_callSpecial?_slot (name := Str.ofString "__next__") hTy F.slot_enumerate_next
      (wpAny_call_entry F.slot_enumerate_next hTy F.entry_enumerate_next
        (enumN_item (N := fun h₁ => ZSt h₁ z TI TO i1 i2 a b (i + 1) ∧ IsPair h₁ s.heap.objs.size u u2 ∧ h₁.objs.size = s.heap.objs.size + 1 ∧ ∀ c o, c ≠ z → c ≠ TO → c ≠ i1 → c ≠ i2 → s.heap.get? c = some o → h₁.get? c = some o)
          (x := .ref s.heap.objs.size) he (fun h₁ n => n.2.2.2 _ _ n0 n2 n3 n4 he) (fun k => zst_nextOf D st p.isList p2.isList (x := u) (y := u2) (by simpa using hu) (by simpa using hu2) fun h' a1 a2 a3 a4 => k h' ⟨a1, a2, a3, a4⟩)
          fun h₁ h' n ho hT hk => wpAny_pure ?_) (F.args_enumerate_next_1 _))))
    obtain ⟨st1, hP1, hsz, hk1⟩ := n
    refine ⟨_, rfl, wpAny_letOwnedTupleGo_enum (s := { s with heap := h', toks := s.toks + 1 }) ho fun h'' he' sb => ?_⟩
    have tne : e ≠ s.heap.objs.size := Nat.ne_of_lt hel
    have new1 : ObjOk X.prog X.w (upd H s.heap.objs.size (.tup [x, y])) h₁ s.heap.objs.size (.tup [x, y]) :=
      ⟨by show 2 ≤ sizeLine; decide, [u, u2], .cons ru (.cons ru2 .nil), ⟨_, hP1, rfl, _, rfl⟩⟩
    have I1 : Inv X pins σ (upd H s.heap.objs.size (.tup [x, y])) { s with heap := h₁ } :=
      I.turnedNew (t' := s.toks) (ch := [e, z, TI, TO, i1, i2]) (fun c o hb q => hk1 c o (fun q' => hb (by simp [q'])) (fun q' => hb (by simp [q'])) (fun q' => hb (by simp [q'])) (fun q' => hb (by simp [q'])) q) hf (Nat.le_refl _) new1
    have kk : ∀ c o, c ≠ e → h₁.get? c = some o → h''.get? c = some o := fun c o hb q => (sb.2 c hb).trans (hk c o hb q)
    have hel1 : e ≠ h₁.objs.size := by rw [hsz]; exact Nat.ne_of_lt (Nat.lt_succ_of_lt hel)
    have hT2 : h''.get? h₁.objs.size = some { cls := .type "tuple", data := .seq #[.int i s.toks, .ref s.heap.objs.size] } := (sb.2 _ (Ne.symm hel1)).trans hT
    have new2 : ObjOk X.prog X.w (upd (upd H s.heap.objs.size (.tup [x, y])) h₁.objs.size (.tup [.int (i : Nat), .ref s.heap.objs.size])) h'' h₁.objs.size (.tup [.int (i : Nat), .ref s.heap.objs.size]) :=
      ⟨by show 2 ≤ sizeLine; decide, [.int i s.toks, .ref s.heap.objs.size], .cons ⟨_, rfl⟩ (.cons rfl .nil), ⟨_, hT2, rfl, _, rfl⟩⟩
    have I2 : Inv X pins σ (upd (upd H s.heap.objs.size (.tup [x, y])) h₁.objs.size (.tup [.int (i : Nat), .ref s.heap.objs.size])) { s with heap := h'', toks := s.toks + 1 } :=
      I1.turnedNew (s := { s with heap := h₁ }) (ch := [e]) (fun c o hb q => kk c o (fun q' => hb (by simp [q'])) q) (fun c hc' => by
        have : c = e := by simpa using hc'
        subst this
        exact fpUpd (hf c (by simp)) tne) (Nat.le_refl _) new2
    have hne12 : h₁.objs.size ≠ s.heap.objs.size := by rw [hsz]; exact Nat.succ_ne_self _
    refine ⟨.ref h₁.objs.size, _, I2, rfl, ⟨_, _, x, y, rfl, I.hok.fresh (Nat.le_refl _), I.hok.fresh (by rw [hsz]; exact Nat.le_succ _), hne12, rfl, fun l hl => by rw [I.list_inj hl hqx]; exact hx, fun l hl => by rw [I.list_inj hl hqy]; exact hy⟩, ⟨⟨.ref s.heap.objs.size, ?_⟩, ?_⟩, fun c hcm => ?_⟩
    · have e1 : ((i + 1 : Nat) : Int) = (i : Int) + 1 := by omega
      rw [e1]; exact he'
    · refine st1.keep fun c o hc' q => kk c o (fun q' => ?_) q
      subst q'
      rcases hc' with q | q | q | q | q
      · exact n0 q
      · exact n1 q
      · exact n2 q
      · exact n3 q
      · exact n4 q
    · have := hlt c hcm
      rw [upd_ne (by rw [hsz]; exact Nat.ne_of_lt (Nat.lt_succ_of_lt this)), upd_ne (Nat.ne_of_lt this)]
      exact (hf c hcm).1
  done := by
    intro X hP hw hK hc i pins s σ H E I hf st hg
    subst hP hw hK
    obtain ⟨⟨old, he⟩, st⟩ := st
    obtain ⟨xs, ys, hqx, hqy, hxy⟩ := hg
    obtain ⟨its, rv, p, _⟩ := I.list hqx
    obtain ⟨its2, rv2, p2, _⟩ := I.list hqy
    have hl := rv.length
    have hl2 := rv2.length
    have hTy : s.TypeIs (.ref e) "enumerate" := ⟨_, he, rfl⟩
    unfold pyNext
    refine wpAny_bind (wpAny_attempt (wpAny_callSpecial?_slot (name := Str.ofString "__next__") hTy F.slot_enumerate_next
      (wpAny_call_entry F.slot_enumerate_next hTy F.entry_enumerate_next ?_ (F.args_enumerate_next_1 _))))
    show wpAny _ _ (field (.ref e) 2 >>= _) _ _ _
    refine wpAny_bind (wpAny_field he rfl (x := .ref z) rfl ?_)
    refine wpAny_bind (zst_nextEnd (I.ok.hd hc) D st p.isList p2.isList (by
      rcases hxy with q | q
      · exact .inl (by simp; omega)
      · exact .inr (by simp; omega)) fun h' x hk hx' => ?_)
    obtain ⟨o, ho, hcl⟩ := hx'
    refine wpAny_bind (wpAny_isInstance (T := "StopIteration") (b := true) ⟨o, ho, hcl⟩ isSubtype_stop ?_)
    exact wpAny_pure ⟨rfl, I.turnedL (t' := s.toks) (ch := [e, z, TI, TO, i1, i2]) (fun c o hb q => hk c o (fun q' => hb (by simp [q'])) (fun q' => hb (by simp [q'])) (fun q' => hb (by simp [q'])) (fun q' => hb (by simp [q'])) q) hf⟩
  self := fun A i s Q E st h => let ⟨⟨_, he⟩, _⟩ := st; wpAny_pyIter_enum he h
theorem ez_ne (n : Nat) : n + 5 ≠ n + 4 ∧ n + 5 ≠ n + 2 ∧ n + 5 ≠ n + 3 ∧ n + 5 ≠ n ∧ n + 5 ≠ n + 1 := by omega
section
variable {X : Cx}
def iEz (K : PySem.W.Frag) (ta : TA) : TI := fun σ H R => ta σ H fun vs H1 => ∃ a b xs ys, vs = [.ref a, .ref b] ∧ SqL K H1 a xs ∧ SqL K H1 b ys ∧ R (ItEz K a b) H1
theorem pi_ez {e e2 : Expr} {ta : TA} {p p2 pos pos2 tpos : Pos} {elts : List Expr} {kk : Nat} (hg0 : Gl X "enumerate") (hm0 : X.mg "enumerate" = none) (hg : Gl X "zip") (hm : X.mg "zip" = none) (ha : PA X [e, e2] ta)
    (hs : starEach [e, e2] X.env = (false, eval e X.env) :: starEach [e2] X.env) (hpl : (backTo pos (starEach [e2] X.env)).any (·.1) = false) :
    PI X (.Tuple elts kk tpos) (.Call (.Name "enumerate" p2) [.Call (.Name "zip" p) [e, e2] [] pos] [] pos2) (iEz X.K ta) := by
  refine ⟨fun pins s σ H R I h => ?_⟩
  refine PyProof.Rows.Call_ (ld_blt I hg0 hm0 PyProof.Rows.boot_enumerate (PyProof.Rows.callWith_type1 ?_ rfl rfl))
  show wpAny _ _ (spliced [(false, eval (.Call (.Name "zip" p) [e, e2] [] pos) X.env)]) _ _ s
  refine Calls.spliced_cons ?_
  refine PyProof.Rows.Call_ (ld_blt I hg hm PyProof.Rows.boot_zip (PyProof.Rows.callWith_type1 (thn (ha.run pos pins s σ H _ I h) fun us s1 ⟨vs, H1, I1, r1, q1⟩ => ?_) hs hpl))
  obtain ⟨a, b, xs, ys, ex, hqx, hqy, q⟩ := q1
  subst ex
  cases r1 with
  | cons r rr =>
    cases rr with
    | cons r' rr =>
      cases rr
      cases r
      cases r'
      obtain ⟨its, rv, p1, _⟩ := I1.list hqx
      obtain ⟨its2, rv2, p2, _⟩ := I1.list hqy
      have la : a < s1.heap.objs.size := p1.lt
      have lb : b < s1.heap.objs.size := p2.lt
      refine call_zip_2 p1.isList p2.isList fun h' hz hTI hTO h1 h2 hsz hk => Calls.spliced_nil ?_
      refine call_enumerate_zip (s := { s1 with heap := h' }) hz fun h'' he hk' => wpAny_pyIter_enum he ?_
      have I2 : Inv X pins σ H1 { s1 with heap := h'' } := I1.kept (t' := s1.toks) fun b o e => hk' b o (hk b o e)
      have he' : IsEnum h'' (s1.heap.objs.size + 5) (s1.heap.objs.size + 4) 0 .none := by
        have := he
        rw [show (Shared.heap { s1 with heap := h' }).objs.size = s1.heap.objs.size + 5 from hsz] at this
        exact this
      have ev : (Value.ref (Shared.heap { s1 with heap := h' }).objs.size) = .ref (s1.heap.objs.size + 5) := by rw [show (Shared.heap { s1 with heap := h' }).objs.size = s1.heap.objs.size + 5 from hsz]
      refine ⟨s1.heap.objs.size + 5, [s1.heap.objs.size + 5, s1.heap.objs.size + 4, s1.heap.objs.size + 2, s1.heap.objs.size + 3, s1.heap.objs.size, s1.heap.objs.size + 1], _, _, H1, ev, I2,
        turn_ez (PySem.W.ktu_apart s1.heap.objs.size a b la lb) (ez_ne _).1 (ez_ne _).2.1 (ez_ne _).2.2.1 (ez_ne _).2.2.2.1 (ez_ne _).2.2.2.2,
        ⟨⟨_, he'⟩, ⟨_, _, hk' _ _ hz, .inl rfl⟩, hk' _ _ hTI, ⟨_, _, hk' _ _ hTO⟩, h1.at fun o q => hk' _ o q, h2.at fun o q => hk' _ o q⟩, fun c hcm => ?_, q⟩
      have e' : c = s1.heap.objs.size + 5 ∨ c = s1.heap.objs.size + 4 ∨ c = s1.heap.objs.size + 2 ∨ c = s1.heap.objs.size + 3 ∨ c = s1.heap.objs.size ∨ c = s1.heap.objs.size + 1 := by simpa using hcm
      have hle : s1.heap.objs.size ≤ c := by
        rcases e' with z | z | z | z | z | z <;> rw [z] <;> first | exact Nat.le_refl _ | exact Nat.le_add_right _ _
      exact I1.fpOk hle (I1.hok.fresh hle)
theorem it_ez {K : PySem.W.Frag} {R : Rho} {H : Hp} {a b : Addr} {xs ys : List D} {g : Guard} (h : ∀ R2 H2 T2, LeW R H R2 H2 → StOk K R2 T2 H2 → stays g T2 = true → (∃ vs, SqL K H2 a vs ∧ Reps K R2 H2 xs vs) ∧ ∃ us, SqL K H2 b us ∧ Reps K R2 H2 ys us) : ItOk K R H (ItEz K a b) (enumL 0 (zipL xs ys), g) := by
  intro R2 H2 T2 i l s hs
  obtain ⟨⟨vs, q, r⟩, us, q2, r2⟩ := h R2 H2 T2 l s hs
  refine ⟨fun hi => ⟨vs, us, q, q2, ?_⟩, fun d hd => ?_⟩
  · rw [r.length, r2.length]
    have hi : (enumL 0 (zipL xs ys)).length ≤ i := hi
    rw [enumL_len, zipL_len] at hi
    omega
  obtain ⟨d', hd', rfl⟩ := enumL_get 0 _ i d hd
  obtain ⟨x, y, hx, hy, rfl⟩ := zipL_get xs ys i d' hd'
  obtain ⟨v, e, rv⟩ := r.get hx
  obtain ⟨u, e2, ru⟩ := r2.get hy
  refine ⟨⟨vs, us, v, u, q, q2, e, e2⟩, fun z H3 hz => ?_⟩
  obtain ⟨p, p2, v', u', rfl, hp, hp2, hne, rfl, h1, h2⟩ := hz
  have k1 := h1 vs q
  have k2 := h2 us q2
  rw [e] at k1
  rw [e2] at k2
  cases k1
  cases k2
  obtain ⟨l2, s2⟩ := s.newFz (o := .tup [v, u]) hp
  have r3 : Rep K { R2 with fz := fun a => R2.fz a ∨ a = p } (upd H2 p (.tup [v, u])) (.tup [x, y]) (.ref p) := ⟨p, _, rfl, ⟨.inr rfl, upd_same⟩, Reps.cons (Rep.mono l2 _ _ rv) (Reps.one (Rep.mono l2 _ _ ru))⟩
  obtain ⟨l3, s3⟩ := s2.newFz (p := p2) (o := .tup [.int (i : Nat), .ref p]) (by rw [upd_ne hne]; exact hp2)
  refine ⟨_, l2.trans l3, s3, p2, _, rfl, ⟨.inr rfl, upd_same⟩, ?_⟩
  refine Reps.cons ?_ (Reps.one (Rep.mono l3 _ _ r3))
  show V.int _ = V.int _
  simp
theorem pi_ezD {a b : Expr} {elts : List Expr} {kk : Nat} {p p2 pos pos2 tpos : Pos} {ea eb : Env → M D} (hg0 : Gl X "enumerate") (hm0 : X.mg "enumerate" = none) (hg : Gl X "zip") (hm : X.mg "zip" = none) (ha : PA X [a, b] (tCons (rdE X.K ea) (tCons (rdE X.K eb) tNil))) (hs : starEach [a, b] X.env = (false, eval a X.env) :: starEach [b] X.env) (hp : (backTo pos (starEach [b] X.env)).any (·.1) = false) :
    PI X (.Tuple elts kk tpos) (.Call (.Name "enumerate" p2) [.Call (.Name "zip" p) [a, b] [] pos] [] pos2) (rdI X.K fun env => do let x ← ea env; let y ← eb env; ezWalk x y) := by
  refine ⟨fun pins s σ H Rk I h => ?_⟩
  obtain ⟨R, T, env, w, T', st, en, ev, po⟩ := h
  refine (pi_ez hg0 hm0 hg hm ha hs hp).run pins s σ H Rk I ?_
  refine rd_then (f := fun env x => do let y ← eb env; ezWalk x y) st en ev fun x T1 R1 H1 v e1 l1 s1 en1 r1 => ?_
  refine rd_then (f := fun _ y => ezWalk x y) s1 en1 e1 fun y T2 R2 H2 u e2 l2 s2 en2 r2 => ?_
  replace r1 := Rep.mono l2 _ _ r1
  unfold ezWalk at e2
  cases q1 : lstWalk x T2 with
  | bad => rw [q1] at e2; cases e2
  | ok w1 T3 =>
    cases q2 : lstWalk y T2 with
    | bad => rw [q1, q2] at e2; cases e2
    | ok w2 T4 =>
      rw [q1, q2] at e2
      cases e2
      obtain ⟨_, c, rfl, ⟨vs, hq⟩, hw⟩ := lstWalk_at s2 q1 r1
      obtain ⟨_, d, rfl, ⟨us, hq'⟩, hw'⟩ := lstWalk_at s2 q2 r2
      refine ⟨c, d, vs, us, rfl, hq, hq', po R2 H2 _ (l1.trans l2) s2 (it_ez fun R3 H3 T3 l s hs => ?_)⟩
      obtain ⟨h1, h2⟩ := stays_app hs
      obtain ⟨vs, q, r⟩ := hw R3 H3 T3 l s h1
      obtain ⟨us, q', r'⟩ := hw' R3 H3 T3 l s h2
      exact ⟨⟨vs, SqL.of q, r⟩, us, SqL.of q', r'⟩
end
end Pz

set_option Elab.async false
set_option linter.all false
set_option maxRecDepth 100000
set_option maxHeartbeats 4000000
/-! D1: dict comprehensions whose dict is told in any form (tuple keys too). -/
namespace Pz
open PySem PySem.Spec PyProof.Rows L2

/-- a form in which a new dict is told: what it is when it is empty; what a store makes of the heap -/
structure DForm where
  emp : HO
  put : Hp → Addr → V → V → Hp → Prop
/-- the form keeps what the model does -/
structure DForm.Ok (F : DForm) (P : Program) (w : World) (A : Around) : Prop where
  new : ∀ (H : Hp) (h : Heap), sysModules < h.objs.size → ObjOk P w H (h.push { cls := .type "dict", data := .dict #[] }) h.objs.size F.emp
  set : ∀ (X : Cx), X.prog = P → X.w = w → X.A = A → ∀ (pins : List (Addr × Obj)) (σ : L2.St) (H H' : Hp) (s : Shared) (E : Value → Shared → Prop) (D : Addr) (y v : V) (u r : Value) (Q : Unit → Shared → Prop),
    Inv X pins σ H s → F.put H D y v H' → RelV y u → RelV v r → (∀ s', Inv X pins σ H' s' → Q () s') → wpAny (model P w) A (dictSet D u r) Q E s
def formT : DForm := ⟨.dT [], fun H D y v H' => ∃ kvs k b, y = .ref b ∧ H b = some (.tup (k.map kV)) ∧ H D = some (.dT kvs) ∧ kvs.length < sizeLine ∧ H' = upd H D (.dT (putK kvs k v))⟩
def formK : DForm := ⟨.dK [], fun H D y v H' => ∃ kvs k, y = kV k ∧ H D = some (.dK kvs) ∧ kvs.length < sizeLine ∧ H' = upd H D (.dK (putK kvs k v))⟩
theorem formK_ok {P : Program} {w : World} {A : Around} : formK.Ok P w A := by
  refine ⟨fun H h hb => dk_empty h hb, ?_⟩
  rintro X rfl rfl rfl pins σ H H' s E D y v u r Q I ⟨kvs, k, rfl, hD, hl, rfl⟩ ry rv h
  exact d_dictSet I hD hl ry rv h
theorem formT_ok {P : Program} {w : World} {A : Around} (hu : A.units < cLine) : formT.Ok P w A := by
  refine ⟨fun H h hb => dt_empty h hb, ?_⟩
  rintro X rfl rfl rfl pins σ H H' s E D y v u r Q I ⟨kvs, k, b, rfl, hb, hD, hl, rfl⟩ ry rv h
  cases (show u = Value.ref b from ry)
  obtain ⟨z, hd, xs, rel, dd⟩ := dt_of I.hok hD
  have hz : xs.length ≤ sizeLine := by rw [← Paired.length rel]; exact z
  have hp : (putK kvs k v).length ≤ sizeLine := by have := length_putK kvs k v; omega
  refine wpAny_dictSet_heap (hsz := hz) hu (key_of I.hok hb) dd fun h' dd' hs => h _ ?_
  obtain ⟨q, es, ep, hq, h2, h3, h4, _, h5⟩ := dd'
  refine d_write I (by rw [hD]; exact True.intro) hs ⟨q, hq⟩ ⟨hp, hd, _, (rel.put k hb rv).keeps fun c ys ec => ?_, q, es, ep, hq, h2, h3, h4, h5⟩
  rw [upd_ne (ne_of ec hD (fun z => nomatch z))]
  exact ec
/-- what a dict comprehension asks -/
def tDcG (F : DForm) (wi : TI) (g : TG) (tt : TT) (tk tv : TE) (vs : List Nat) : TE := fun σ H Q => wi σ H fun J H1 => ∀ D, H1 D = none → ∃ W : Nat → Nat → Hp → Prop, (∃ m, W 0 m (upd H1 D F.emp)) ∧ ∀ i m H, W i m H →
  (J.stop i H ∧ Q (.ref D) H) ∨ (J.go i H ∧ ∃ Nx : Hp → Prop, (∀ H', Nx H' → ∃ m', m' < m ∧ W (i + 1) m' H') ∧ ∀ x H', J.yld i H x H' → g x (wipe σ vs) H' fun σ2 H2 => wipe σ2 vs = wipe σ vs ∧ tt σ2 H2 fun b H3 =>
    if b = true then tk σ2 H3 fun y H4 => tv σ2 H4 fun z H5 => ∃ H6, F.put H5 D y z H6 ∧ Nx H6 else Nx H3)
section
variable {X : Cx}
/-- all of a block's judgements -/
abbrev InBlk (X : Cx) (scope : Scope) (J : Cx → Prop) : Prop := ∀ (s : Shared) (H : Hp) (C : Addr) (cl : List (Str × Addr)) (fp : List Addr), J (X.blk s H scope (compEnvC scope cl C X.env) fp)
theorem pe_dcG {F : DForm} (hF : F.Ok X.prog X.w X.A) {kx vx tg iter : Expr} {ifs : List Expr} {scope : Scope} {own : List (Str × Nat)} {pos : Pos} {wi : TI} {g : TG} {tt : TT} {tk tv : TE} (hc : X.calm = true) (hN : X.N.Nodup) (hi : PI X tg iter wi) (ok : BlkOk X.N X.env.scope scope own)
    (hg : InBlk X scope fun Y => PG Y tg g) (ht : InBlk X scope fun Y => PTs Y ifs tt) (hk : InBlk X scope fun Y => PE Y kx tk) (he : InBlk X scope fun Y => PE Y vx tv) (hs : ∀ x, foldedSetIterable iter X.env x = pure x) :
    PE X (.DictComp kx vx [⟨tg, iter, ifs, 0⟩] scope pos) (tDcG F wi g tt tk tv (own.map (·.2))) := by
  refine ⟨fun pins s σ H Q I h => ?_⟩
  rw [arm_eval_DictComp]
  have hfree : ∀ y ∈ scope.names, y.2 = .free → ∃ c, X.env.cells.lookup y.1 = some c := fun y hy e => (ok.free y hy e).elim (fun k => I.ok.has _ (.inl k)) fun k => I.ok.has _ (.inr k)
  refine wpAny_comprehension_free rfl hs (closure_ok hfree) ok.kind (fun y hy e => by rw [ok.uniq y hy, e]) (thn (hi.run pins s σ H _ I h) fun xv s1 hx => thn hx fun itv s2 h2 => ?_)
  obtain ⟨it, fp, tn, J, H2, rfl, I2, T, st2, f2, q⟩ := h2
  refine wpAny_newObj_type (newEnv_comp ?_)
  obtain ⟨W, ⟨m0, w0⟩, turn⟩ := q s2.heap.objs.size (I2.hok.fresh (Nat.le_refl _))
  have I3 : Inv X pins σ (upd H2 s2.heap.objs.size F.emp) { s2 with heap := s2.heap.push { cls := .type "dict", data := .dict #[] } } := I2.laid (t' := s2.toks) (fun b o e => Heap.get?_push_of_some _ e) (Nat.le_refl _) (hF.new _ s2.heap I2.big)
  generalize hH3 : upd H2 s2.heap.objs.size F.emp = H3 at I3 w0
  have low : ∀ b ∈ fp, b < s2.heap.objs.size := fun b hb => let ⟨o, e, _⟩ := T.obj _ _ st2 b hb; Heap.lt_size e
  have nfp : ∀ b ∈ fp, H3 b = none := fun b hb => by
    rw [← hH3, upd_ne (Nat.ne_of_lt (low b hb))]
    exact (f2 b hb).1
  generalize hs3 : ({ s2 with heap := s2.heap.push { cls := .type "dict", data := .dict #[] } } : Shared) = s3 at I3 ⊢
  have up3 : ∀ b o, s2.heap.get? b = some o → s3.heap.get? b = some o := fun b o e => by rw [← hs3]; exact Heap.get?_push_of_some _ e
  have f3 : ∀ b ∈ fp, FpOk X pins H3 b ∧ b < s3.heap.objs.size := fun b hb =>
    let ⟨o, e, _⟩ := T.obj _ _ st2 b hb
    ⟨⟨nfp b hb, (f2 b hb).2⟩, Heap.lt_size (up3 b o e)⟩
  have I4 := block_start I3 ok hN f3
  generalize hcl : cellsFrom (s3.heap.objs.size + 1) scope.names (cloFrom X.env.cells scope.names []) = cl at I4 ⊢
  have pg := hg s3 H3 s3.heap.objs.size cl fp
  have pt := ht s3 H3 s3.heap.objs.size cl fp
  have pk := hk s3 H3 s3.heap.objs.size cl fp
  have pv := he s3 H3 s3.heap.objs.size cl fp
  generalize hs4 : ({ s3 with heap := pushCells (s3.heap.push { cls := .type "dict", data := .dict #[] }) scope.names } : Shared) = s4 at I4 ⊢
  have st4 : tn 0 s4.heap := T.keep _ _ _ st2 fun b _ o e => by
    rw [← hs4]
    exact pushCells_keeps _ _ _ _ (Heap.get?_push_of_some _ (up3 b o e))
  generalize hD : s2.heap.objs.size = D at turn ⊢
  have fps : ∀ {σ' : L2.St} {H' : Hp} {s' : Shared}, Inv (X.blk s3 H3 scope (compEnvC scope cl s3.heap.objs.size X.env) fp) [] σ' H' s' → (∀ b ∈ fp, H' b = none) → ∀ b ∈ fp, FpOk (X.blk s3 H3 scope (compEnvC scope cl s3.heap.objs.size X.env) fp) [] H' b := fun {σ' H' s'} I' hn b hb =>
    ⟨hn b hb, (I'.ok.exf b hb).1, I'.ok.exfs b hb, .inl hb, fun x c e => (I'.ok.exf b hb).2 x c e, fun p hp => absurd (show p ∈ ([] : List (Addr × Obj)) ++ [] from hp) (by simp)⟩
  have loop : codeAny (model X.prog X.w) X.A (.compLoop (.DictComp kx vx [⟨tg, iter, ifs, 0⟩] scope pos) 0 (.ref it) (.ref D) (compEnvC scope cl s3.heap.objs.size X.env)) (compPost (model X.prog X.w) X.A X.xe none (EP X pins σ Q) (.ref D) s3.heap.objs.size) s4 := by
    refine compLoop_anyD (fun n s' => ∃ i H', Inv (X.blk s3 H3 scope (compEnvC scope cl s3.heap.objs.size X.env) fp) [] (wipe σ (own.map (·.2))) H' s' ∧ tn i s'.heap ∧ (∀ b ∈ fp, H' b = none) ∧ W i n H') ?_ m0 ⟨0, H3, I4, st4, nfp, w0⟩
    rintro n s5 ⟨i, H5, I5, st5, n5, w5⟩
    rcases turn i n H5 w5 with ⟨stop, qq⟩ | ⟨go, Nx, hNx, step⟩
    · refine thnF (T.done (X.blk s3 H3 scope (compEnvC scope cl s3.heap.objs.size X.env) fp) rfl rfl rfl hc i [] s5 _ H5 (fun _ _ => False) I5 (fps I5 n5) st5 stop) fun r s6 ⟨hr, I6⟩ => ?_
      subst hr
      have I7 : Inv X pins σ H5 s6 := I3.call' (ch := fp) I6.os I6.base I6.hok I6.bare fun b hb => ⟨(f3 b hb).1.2.2.2.1, (f3 b hb).1.2.1, (f3 b hb).1.2.2.2.2.1, (f3 b hb).1.2.2.2.2.2⟩
      have nC : H5 s3.heap.objs.size = none := I6.free
      obtain ⟨m, hn, _⟩ := I6.loc
      obtain ⟨g0, g1, g2, g3, g4, g5⟩ := I3.fpOk (Nat.le_refl _) nC
      exact ⟨m, hn, fun h'' sb => ⟨.ref D, H5, I7.turned (t' := s6.toks) (fun b o hb e => (sb.2 b hb).trans e) g0 g1 g3 g4 g5, rfl, qq⟩⟩
    · refine thnF (T.item (X.blk s3 H3 scope (compEnvC scope cl s3.heap.objs.size X.env) fp) rfl rfl rfl hc i [] s5 _ H5 (fun _ _ => False) I5 (fps I5 n5) st5 go) fun r s6 ⟨u, hr, h6⟩ => ?_
      subst hr
      refine thnF h6 fun _ s7 ⟨x, H7, I7, r7, y7, st7, n7⟩ => ?_
      refine thnF (pg.run _ s7 _ H7 x u _ (I7.pinned (fps I7 n7) (T.obj _ _ st7)) r7 (step x H7 y7)) fun _ s8 ⟨σ8, H8, I8, hw8, q8⟩ => ?_
      refine thnF (pt.run _ s8 σ8 H8 _ I8 q8) fun b s9 ⟨H9, I9, q9⟩ => ?_
      have fin : ∀ {s' : Shared} {H' : Hp}, Inv (X.blk s3 H3 scope (compEnvC scope cl s3.heap.objs.size X.env) fp) ([] ++ pinsAt fp s7.heap) σ8 H' s' → Nx H' → ∃ m, m < n ∧ ∃ i H', Inv (X.blk s3 H3 scope (compEnvC scope cl s3.heap.objs.size X.env) fp) [] (wipe σ (own.map (·.2))) H' s' ∧ tn i s'.heap ∧ (∀ b ∈ fp, H' b = none) ∧ W i m H' := fun {s' H'} I' nx => by
        obtain ⟨m', hm, w'⟩ := hNx H' nx
        have pin' : ∀ b ∈ fp, ∀ o, s7.heap.get? b = some o → s'.heap.get? b = some o ∧ H' b = none := fun b hb o e =>
          let z := I'.pin (b, o) (List.mem_append_right _ (List.mem_append_right _ (mem_pinsAt hb e)))
          ⟨z.1, z.2.1⟩
        refine ⟨m', hm, i + 1, H', (I'.unpinned (pins := [])).weak (by rw [← hw8, wipe_length]) (fun j v e => ?_), T.keep _ _ _ st7 fun b hb o e => (pin' b hb o e).1, fun b hb => ?_, w'⟩
        · rw [← hw8] at e
          exact (wipe_some e).1
        · obtain ⟨o, e, _⟩ := T.obj _ _ st7 b hb
          exact (pin' b hb o e).2
      cases b with
      | false =>
        simp only [Bool.false_eq_true, if_false] at q9 ⊢
        exact fin I9 q9
      | true =>
        simp only [if_true] at q9 ⊢
        refine thnF (pk.run _ s9 σ8 H9 _ I9 q9) fun z s10 ⟨yk, H10, I10, r10, q10⟩ => ?_
        refine thnF (pv.run _ s10 σ8 H10 _ I10 q10) fun z2 s11 ⟨yv, H11, I11, r11, H12, pp, nx⟩ => ?_
        exact hF.set (X.blk s3 H3 scope (compEnvC scope cl s3.heap.objs.size X.env) fp) rfl rfl rfl _ σ8 H11 H12 s11 _ D yk yv z z2 _ I11 pp r10 r11 fun s12 I12 => fin I12 nx
  exact codeAny_compStart_dict loop (T.self X.A 0 _ _ _ st4 loop)
end
end Pz

set_option Elab.async false
set_option linter.all false
set_option maxRecDepth 100000
set_option maxHeartbeats 4000000
/-! D2: dict comprehensions by the interpreter. -/
namespace Pz
open PySem PySem.Spec L2
def formOf (tk : Bool) : DForm := match tk with
  | true => formT
  | false => formK
/-- the dict that grows: what stands at p -/
def DicAt (K : PySem.W.Frag) (R : Rho) (H : Hp) (p : Addr) (tk : Bool) (kvs : List (D × D)) : Prop := CellOk K R H p (.dic tk kvs)
/-- the turn of a dict comprehension -/
def dcompF (t : Tg) (ec : Env → M Bool) (ek ev : Env → M D) (env0 : Env) (x : D) : M (Option (D × D)) := match bindT t x env0 with
  | some env1 => do
    let b ← ec env1
    match b with
    | true => do
      let y ← ek env1
      let z ← ev env1
      pure (some (y, z))
    | false => pure none
  | none => fail
theorem dic_emp {K : PySem.W.Frag} {R : Rho} {H : Hp} {p : Addr} {tk : Bool} (h : H p = some (formOf tk).emp) : DicAt K R H p tk [] := by
  cases tk
  · exact ⟨[], h, rfl⟩
  · exact ⟨[], h, rfl⟩
/-- a store -/
theorem dic_put {K : PySem.W.Frag} {R : Rho} {T : Store} {H : Hp} {p : Addr} {tk : Bool} {kvs : List (D × D)} {y z : D} {vy vz : V} (st : StOk K R T H) (hp : R.kp p) (h : DicAt K R H p tk kvs) (ry : Rep K R H y vy) (rz : Rep K R H z vz) (hk : (keyOk y && (isTupD y == tk) && Nat.blt kvs.length sizeLine) = true) :
    ∃ o, (formOf tk).put H p vy vz (upd H p o) ∧ LeW R H R (upd H p o) ∧ StOk K R T (upd H p o) ∧ DicAt K R (upd H p o) p tk (dput kvs y z) := by
  simp only [Bool.and_eq_true, beq_iff_eq] at hk
  obtain ⟨⟨h1, h2⟩, h3⟩ := hk
  cases tk with
  | false =>
    obtain ⟨ks, hq, pr⟩ := h
    obtain ⟨k, ek⟩ := keyOk_K h1 h2
    have ev := keyK_v ek ry
    obtain ⟨l, s⟩ := st.asideWrite (o := .dK (putK ks k vz)) hp
    refine ⟨_, ⟨ks, k, ev, hq, ?_, rfl⟩, l, s, ⟨_, upd_same, ?_⟩⟩
    · rw [pr.length]; exact blt_lt h3
    · exact dput_K ek (Le.refl _ _) (Rep.monoW l _ _ rz) (pr.monoW l)
  | true =>
    obtain ⟨ks, hq, pr⟩ := h
    obtain ⟨k, ek⟩ := keyOk_T h1 h2
    obtain ⟨l, s⟩ := st.asideWrite (o := .dT (putK ks k vz)) hp
    cases y <;> first | (cases h2; done) | skip
    rename_i xs
    obtain ⟨b, vs, rfl, tt, rs⟩ := ry
    have evs := keyKs_v ek rs
    subst evs
    refine ⟨_, ⟨ks, k, b, rfl, tt.2, hq, ?_, rfl⟩, l, s, ⟨_, upd_same, ?_⟩⟩
    · rw [pr.length]; exact blt_lt h3
    · exact dput_T ek (Le.refl _ _) (Rep.monoW l _ _ rz) (pr.monoW l)
section
variable {K : PySem.W.Frag}
theorem rd_dcomp {tk : Bool} {ei : Env → M Walk} {t : Tg} {ec : Env → M Bool} {ek ev : Env → M D} {own : List Nat} {σ : L2.St} {H : Hp} {Q : VK} (hs : ∀ j ∈ tgS t, j ∈ own)
    (h : rdE K (fun env => do let w ← ei env; let ys ← dcompL tk w.2 (dcompF t ec ek ev (wipeE env own)) w.1 []; newCell (.dic tk ys)) σ H Q) :
    tDcG (formOf tk) (rdI K ei) (rdG K t) (rdT K ec) (rdE K ek) (rdE K ev) own σ H Q := by
  obtain ⟨R, T, env, d, T', st, en, e, po⟩ := h
  obtain ⟨w, T1, e1, e2⟩ := bind_ok e
  obtain ⟨ys, T2', e3, e4⟩ := bind_ok e2
  replace e4 : Res.ok (D.ref T2'.length) (T2' ++ [.dic tk ys]) = .ok d T' := e4
  cases e4
  refine ⟨R, T, env, w, T1, st, en, e1, fun R1 H1 J l1 s1 it p hp => ?_⟩
  have hkp : ¬ R1.kp p := fun z => by
    obtain ⟨_, u, q, _⟩ := s1.kp p z
    rw [hp] at q
    cases q
  refine ⟨fun i m H2 => ∃ R2 T2 acc, LeW R1 H1 R2 H2 ∧ (∀ a, R2.kp a ↔ R1.kp a ∨ a = p) ∧ (∀ a, R1.kp a → H2 a = H1 a) ∧ StOk K R2 T2 H2 ∧ DicAt K R2 H2 p tk acc ∧ m = (w.1.drop i).length ∧ i ≤ w.1.length ∧
    dcompL tk w.2 (dcompF t ec ek ev (wipeE env own)) (w.1.drop i) acc T2 = .ok ys T2', ⟨w.1.length, ?_⟩, ?_⟩
  · obtain ⟨l2, s2⟩ := s1.aside (o := (formOf tk).emp) hp (by cases tk <;> rfl)
    refine ⟨_, T1, [], l2, fun a => Iff.rfl, fun a ha => upd_ne fun z => hkp (z ▸ ha), s2, dic_emp upd_same, by simp, Nat.zero_le _, ?_⟩
    simpa using e3
  · rintro i m H2 ⟨R2, T3, acc, l2, hk, hk1, s2, dq, rfl, hi, evv⟩
    cases hd : w.1.drop i with
    | nil =>
      left
      rw [hd] at evv
      unfold dcompL at evv
      obtain ⟨hst, rfl, rfl⟩ := okIf_ok evv
      have hl : w.1.length ≤ i := by
        have := congrArg List.length hd
        simp at this
        omega
      refine ⟨(it R2 H2 _ i l2 s2 hst).1 hl, ?_⟩
      obtain ⟨l3, s3⟩ := s2.backCell (c := .dic tk acc) hk hkp dq
      have hm : LeW R1 H1 _ _ := l2.trans l3
      have lf : Le R1 H1 { R2 with cell := R2.cell ++ [p], kp := R1.kp } H2 := ⟨hm.cell, hm.fz, rfl, hk1⟩
      refine po _ _ (.ref p) (l1.trans lf) s3 ⟨p, rfl, ?_⟩
      rw [← s2.len, List.getElem?_append_right (Nat.le_refl _), Nat.sub_self]
      rfl
    | cons x rest =>
      right
      rw [hd] at evv
      unfold dcompL at evv
      cases hst : stays w.2 T3 with
      | false => rw [hst] at evv; cases evv
      | true =>
        simp only [hst] at evv
        have hx : w.1[i]? = some x := by
          have := congrArg List.head? hd
          simpa [List.head?_drop] using this
        have hlt : i < w.1.length := (List.getElem?_eq_some_iff.mp hx).1
        have hd1 : w.1.drop (i + 1) = rest := by
          have := congrArg List.tail hd
          simpa [List.tail_drop] using this
        obtain ⟨go, yl⟩ := (it R2 H2 T3 i l2 s2 hst).2 x hx
        refine ⟨go, fun H5 => ∃ R2 T2 acc, LeW R1 H1 R2 H5 ∧ (∀ a, R2.kp a ↔ R1.kp a ∨ a = p) ∧ (∀ a, R1.kp a → H5 a = H1 a) ∧ StOk K R2 T2 H5 ∧ DicAt K R2 H5 p tk acc ∧
          dcompL tk w.2 (dcompF t ec ek ev (wipeE env own)) rest acc T2 = .ok ys T2', ?_, ?_⟩
        · rintro H5 ⟨R5, T5, acc5, a1, a2, a3, a4, a5, a6⟩
          exact ⟨rest.length, by simp, R5, T5, acc5, a1, a2, a3, a4, a5, by rw [hd1], hlt, by rw [hd1]; exact a6⟩
        · intro v H3 hy
          obtain ⟨R3, l3, s3, rx⟩ := yl v H3 hy
          have pk : R2.kp p := (hk p).mpr (.inr rfl)
          have q3 : DicAt K R3 H3 p tk acc := CellOk.monoW l3.w (l3.kh p pk) dq
          have en3 : EnvOk K R3 H3 (wipe σ own) (wipeE env own) := ((en.mono l1).monoW (l2.trans l3.w)).wipe own
          cases hb : bindT t x (wipeE env own) with
          | none =>
            have : dcompF t ec ek ev (wipeE env own) x = fail := by unfold dcompF; rw [hb]
            rw [this] at evv
            cases evv
          | some env1 =>
            have hf : dcompF t ec ek ev (wipeE env own) x = (do
              let b ← ec env1
              match b with
              | true => do
                let y ← ek env1
                let z ← ev env1
                pure (some (y, z))
              | false => pure none) := by unfold dcompF; rw [hb]
            rw [hf] at evv
            refine ⟨R3, T3, _, x, env1, s3, en3, rx, hb, fun σ2 en2 k2 => ⟨wipe_kept k2 hs, ?_⟩⟩
            cases er : (do
              let b ← ec env1
              match b with
              | true => do
                let y ← ek env1
                let z ← ev env1
                pure (some (y, z))
              | false => pure none : M (Option (D × D))) T3 with
            | bad => rw [er] at evv; cases evv
            | ok o T4 =>
              rw [er] at evv
              obtain ⟨k, T5, c1, c2⟩ := bind_ok er
              refine ⟨R3, T3, env1, k, T5, s3, en2, c1, fun R5 H5 l5 s5 => ?_⟩
              have hk5 : ∀ a, R5.kp a ↔ R1.kp a ∨ a = p := fun a => by rw [l5.kp, l3.kp]; exact hk a
              have q5 : DicAt K R5 H5 p tk acc := CellOk.monoW l5.w (l5.kh p (by rw [l3.kp]; exact pk)) q3
              have kk5 : ∀ a, R1.kp a → H5 a = H1 a := fun a ha => by
                have z2 : R2.kp a := (hk a).mpr (.inl ha)
                rw [l5.kh a (by rw [l3.kp]; exact z2), l3.kh a z2]
                exact hk1 a ha
              have lw5 : LeW R1 H1 R5 H5 := l2.trans (l3.w.trans l5.w)
              cases k with
              | false =>
                refine iteF ?_
                obtain ⟨rfl, rfl⟩ := pure_ok c2
                exact ⟨R5, T5, acc, lw5, hk5, kk5, s5, q5, evv⟩
              | true =>
                refine iteT ?_
                refine rd_then (f := fun env y => (do let z ← ev env; pure (some (y, z)) : M (Option (D × D)))) s5 (en2.mono l5) c2 fun y T6 R6 H6 u c3 l6 s6 en6 r6 => ?_
                refine rd_then (f := fun _ z => (pure (some (y, z)) : M (Option (D × D)))) s6 en6 c3 fun z T7 R7 H7 u7 c4 l7 s7 en7 r7 => ?_
                obtain ⟨rfl, rfl⟩ := pure_ok c4
                have l67 : Le R5 H5 R7 H7 := l6.trans l7
                have hk7 : ∀ a, R7.kp a ↔ R1.kp a ∨ a = p := fun a => by rw [l67.kp]; exact hk5 a
                have p5 : R5.kp p := (hk5 p).mpr (.inr rfl)
                have q7 : DicAt K R7 H7 p tk acc := CellOk.monoW l67.w (l67.kh p p5) q5
                have ev2 : (match keyOk y && (isTupD y == tk) && Nat.blt acc.length sizeLine with
                  | true => dcompL tk w.2 (dcompF t ec ek ev (wipeE env own)) rest (dput acc y z) T7
                  | false => .bad) = .ok ys T2' := evv
                cases hb2 : (keyOk y && (isTupD y == tk) && Nat.blt acc.length sizeLine) with
                | false => rw [hb2] at ev2; cases ev2
                | true =>
                  rw [hb2] at ev2
                  obtain ⟨o, pp, l8, s8, q8⟩ := dic_put s7 ((hk7 p).mpr (.inr rfl)) q7 (Rep.mono l7 _ _ r6) r7 hb2
                  refine ⟨_, pp, R7, T7, _, lw5.trans (l67.w.trans l8), hk7, fun a ha => ?_, s8, q8, ev2⟩
                  rw [upd_ne (show a ≠ p from fun z => hkp (z ▸ ha)), l67.kh a ((hk5 a).mpr (.inl ha))]
                  exact kk5 a ha
end
end Pz

set_option Elab.async false
set_option linter.all false
set_option maxRecDepth 100000
set_option maxHeartbeats 4000000
/-! S1: sets of ints and texts that are filled from a list or a tuple and sorted. -/
namespace PzS
open PySem PySem.Spec PyProof.Rows L2

/-- the set at a: its keys in the table's order -/
def SetM (P : Program) (w : World) (h : Heap) (a : Addr) (ks : List Key) : Prop :=
  ∃ o es ep t, h.get? a = some o ∧ o.ExactSet ∧ o.data = .set es ep t ∧ ElemsOf (mixKind P w) es.toList ∧ Vals (ks.map kV) (es.toList.map (·.2)) ∧ ks.Nodup ∧
    es.size < scanBound ∧ t.fits es.size = true ∧ Ris t.place.toList ∧ (w.params.followText "set-order" = true ∨ t.led = true)
section
variable {P : Program} {w : World} {A : Around} {E : Value → Shared → Prop} {s : Shared} {a : Addr} {ks : List Key} {h h' : Heap}
theorem SetM.at (R : SetM P w h a ks) (k : ∀ o, h.get? a = some o → h'.get? a = some o) : SetM P w h' a ks := by
  obtain ⟨o, es, ep, t, ho, r⟩ := R
  exact ⟨o, es, ep, t, k o ho, r⟩
theorem vals_get : ∀ {xs : List V} {us : List Value}, Vals xs us → ∀ u ∈ us, ∃ x ∈ xs, RelV x u
  | _, _, .nil, u, hu => by cases hu
  | _, _, .cons r rs, u, hu => by
    rcases List.mem_cons.mp hu with e | hu
    · subst e; exact ⟨_, List.mem_cons_self, r⟩
    · obtain ⟨x, hx, q⟩ := vals_get rs u hu
      exact ⟨x, List.mem_cons_of_mem _ hx, q⟩
theorem vals_put : ∀ {xs : List V} {us : List Value}, Vals xs us → ∀ x ∈ xs, ∃ u ∈ us, RelV x u
  | _, _, .nil, u, hu => by cases hu
  | _, _, .cons r rs, u, hu => by
    rcases List.mem_cons.mp hu with e | hu
    · subst e; exact ⟨_, List.mem_cons_self, r⟩
    · obtain ⟨x, hx, q⟩ := vals_put rs u hu
      exact ⟨x, List.mem_cons_of_mem _ hx, q⟩
/-- a rearrangement of the values rearranges the keys -/
theorem vals_perm {us us' : List Value} (p : us'.Perm us) : ∀ {ks : List Key}, Vals (ks.map kV) us → ∃ ks' : List Key, ks'.Perm ks ∧ Vals (ks'.map kV) us' := by
  induction p with
  | nil => exact fun r => ⟨_, List.Perm.refl _, r⟩
  | cons x _ ih =>
    intro ks r
    cases ks with
    | nil => cases r
    | cons k ks =>
      cases r with
      | cons r rs =>
        obtain ⟨ks', p', q⟩ := ih rs
        exact ⟨k :: ks', p'.cons k, .cons r q⟩
  | swap x y l =>
    intro ks r
    cases ks with
    | nil => cases r
    | cons k ks =>
      cases r with
      | cons r rs =>
        cases ks with
        | nil => cases rs
        | cons k2 ks =>
          cases rs with
          | cons r2 rs => exact ⟨k2 :: k :: ks, List.Perm.swap _ _ _, .cons r2 (.cons r rs)⟩
  | trans _ _ ih1 ih2 =>
    intro ks r
    obtain ⟨k2, p2, r2⟩ := ih2 r
    obtain ⟨k3, p3, r3⟩ := ih1 r2
    exact ⟨k3, p3.trans p2, r3⟩
theorem is_iff {k j : Key} {u : Value} (r : RelV (kV k) u) : (mixKind P w).is j u = true ↔ j = k :=
  ⟨fun q => (mixKind P w).inj u j k q (kV_is r), fun e => by subst e; exact kV_is r⟩
theorem mem_es {es : List (Int × Value)} (v : Vals (ks.map kV) (es.map (·.2))) (k : Key) : k ∈ ks ↔ ∃ e ∈ es, (mixKind P w).is k e.2 = true := by
  refine ⟨fun hk => ?_, fun ⟨e, he, q⟩ => ?_⟩
  · obtain ⟨u, hu, r⟩ := vals_put v (kV k) (List.mem_map.mpr ⟨k, hk, rfl⟩)
    obtain ⟨e, he, rfl⟩ := List.mem_map.mp hu
    exact ⟨e, he, kV_is r⟩
  · obtain ⟨x, hx, r⟩ := vals_get v e.2 (List.mem_map.mpr ⟨e, he, rfl⟩)
    obtain ⟨j, hj, rfl⟩ := List.mem_map.mp hx
    rw [(is_iff r).mp q]
    exact hj
theorem len_es {es : List (Int × Value)} (v : Vals (ks.map kV) (es.map (·.2))) : es.length = ks.length := by
  have := v.length
  simpa using this.symm

theorem tail_add {g : Bool → Sem Unit} (hg : ∀ (b : Bool) (s₁ : Shared) (Q' : Unit → Shared → Prop), Q' () s₁ → wpAny (model P w) A (g b) Q' E s₁)
    {o : Obj} {es : Array (Int × Value)} {ep : Nat} {t : SetTable} (ho : s.heap.get? a = some o) (hex : o.ExactSet) (hd : o.data = .set es ep t)
    {es1 : Array (Int × Value)} {t2 : SetTable} {k1 : List Key} (el : ElemsOf (mixKind P w) es1.toList) (v1 : Vals (k1.map kV) (es1.toList.map (·.2))) (nd : k1.Nodup)
    (hb1 : es1.size < scanBound) (hf2 : t2.fits es1.size = true) (hr : Ris t2.place.toList) (hl : w.params.followText "set-order" = true ∨ t2.led = true) {wasDummy : Bool} {R : Option Bool → Shared → Prop}
    (hR : ∀ (h' : Heap) (k2 : List Key), Heap.SameBut a s.heap h' → SetM P w h' a k2 → k2.Perm k1 → R (some true) { s with heap := h' }) :
    wpAny (model P w) A (do
        storeSet a es1 t2
        if (!wasDummy && t2.tooFull) = true then do
            g (relayAll t2 es1 (SetTable.grown es1.size)).2.2
            storeSet a (relayAll t2 es1 (SetTable.grown es1.size)).1 (relayAll t2 es1 (SetTable.grown es1.size)).2.1
            pure (some true)
          else pure (some true)) R E s := by
  refine wpAny_bind (wpAny_storeSet_of ho hd ?_ (fits_of_scanBound hb1))
  have o1 := store_at (es' := es1) (t' := t2) ho hd
  have b1 := Heap.SameBut.update s.heap a (Obj.putSet es1 t2)
  split
  · have pm := relayAll_perm t2 es1 (SetTable.grown es1.size)
    have f3 := relayAll_fits t2 es1 (SetTable.grown es1.size)
    have r3 := relayAll_ris t2 es1 (SetTable.grown es1.size)
    have l3 := relayAll_led t2 es1 (SetTable.grown es1.size)
    generalize relayAll t2 es1 (SetTable.grown es1.size) = Z at pm f3 r3 l3 ⊢
    obtain ⟨es2, t3, gave⟩ := Z
    dsimp only at pm f3 r3 l3 ⊢
    have hz : es2.size = es1.size := by rw [← Array.length_toList, pm.length_eq, Array.length_toList]
    have b2 : es2.size < scanBound := by rw [hz]; exact hb1
    refine wpAny_bind (hg _ _ _ ?_)
    refine wpAny_bind (wpAny_storeSet_of o1 rfl ?_ (fits_of_scanBound b2))
    have o2 := store_at (es' := es2) (t' := t3) o1 rfl
    obtain ⟨k2, p2, v2⟩ := vals_perm (pm.map (·.2)) v1
    refine wpAny_pure (hR _ k2 (b1.trans (Heap.SameBut.update _ a _)) ?_ p2)
    exact ⟨_, es2, _, t3, o2, hex, rfl, fun e he => el e (pm.mem_iff.mp he), v2, p2.nodup_iff.mpr nd, b2, f3, r3, hl.imp id fun z => by rw [l3]; exact z⟩
  · exact wpAny_pure (hR _ k1 b1 ⟨_, es1, _, t2, o1, hex, rfl, el, v1, nd, hb1, hf2, hr, hl⟩ (List.Perm.refl _))

theorem add_hashed {k : Key} {x : Value} {Q : Bool → Shared → Prop} (rx : RelV (kV k) x) (R : SetM P w s.heap a ks) (room : ks.length + 1 < scanBound)
    (hQ : ∀ (h' : Heap) (k2 : List Key) (b : Bool), Heap.SameBut a s.heap h' → SetM P w h' a k2 → (∀ j, j ∈ k2 ↔ j ∈ ks ∨ j = k) → k2.length ≤ ks.length + 1 → Q b { s with heap := h' }) :
    wpAny (model P w) A (setAddHashed a x ((mixKind P w).hash k)) Q E s := by
  obtain ⟨o, es, ep, t, ho, hex, hd, el, v, nd, hb, hf, hr, hl⟩ := id R
  have hm := mem_es (P := P) (w := w) v
  have hn : es.size = ks.length := by rw [← Array.length_toList]; exact len_es v
  have hkey : (mixKind P w).is k x = true := kV_is rx
  have hsc := key_scan rx
  unfold setAddHashed setAddHashedIn
  refine wpAny_holding (wpAny_bind (wpAny_setState_of ho hd hf ?_))
  dsimp only
  rw [byScan_of hsc hb el]
  simp only [↓reduceIte]
  unfold setAddByScan
  refine wpAny_bind (wpAny_bind (wpAny_rule (wpAny_bind (wpAny_setScan_of hkey ho hd hf el ?_))))
  cases hfi : List.findIdx? (fun e => (mixKind P w).is k e.2) es.toList with
  | some j =>
    dsimp only
    obtain ⟨hj, pj, _⟩ := List.findIdx?_eq_some_iff_getElem.mp hfi
    have hk : k ∈ ks := (hm k).mpr ⟨es.toList[j], List.getElem_mem hj, pj⟩
    refine wpAny_pure (wpAny_pure ?_)
    exact hQ s.heap ks _ (Heap.SameBut.refl a s.heap) R (fun i => ⟨.inl, fun z => z.elim id fun e => e ▸ hk⟩) (Nat.le_succ _)
  | none =>
    dsimp only
    have hk : k ∉ ks := fun z => by
      obtain ⟨e, he, q⟩ := (hm k).mp z
      have c := List.findIdx?_eq_none_iff.mp hfi e he
      rw [q] at c
      cases c
    have gw : ∀ (b : Bool) {s₁ : Shared} {Q' : Unit → Shared → Prop}, Q' () s₁ → wpAny (model P w) A (match b with | true => rule "set.scan.the-table-gave-way" | false => pure ()) Q' E s₁ :=
      fun b s₁ Q' q => by cases b <;> first | exact wpAny_pure q | exact wpAny_rule q
    have pm := layNew_perm t es ((mixKind P w).hash k) x
    have f1 := layNew_fits t es ((mixKind P w).hash k) x
    have r1 := layNew_ris t es ((mixKind P w).hash k) x hr
    have l1 := layNew_led t es ((mixKind P w).hash k) x
    generalize layNew t es ((mixKind P w).hash k) x = Z at pm f1 r1 l1 ⊢
    obtain ⟨es1, t1, wasDummy, gave⟩ := Z
    dsimp only at pm f1 r1 l1 ⊢
    rw [Array.toList_push] at pm
    have pc : es1.toList.Perm (((mixKind P w).hash k, x) :: es.toList) := pm.trans (List.perm_append_singleton _ _)
    obtain ⟨k1, p1, v1⟩ := vals_perm (pc.map (·.2)) (ks := k :: ks) (.cons rx v)
    have el1 : ElemsOf (mixKind P w) es1.toList := fun e he => by
      rcases List.mem_cons.mp (pc.mem_iff.mp he) with z | z
      · rw [z]; exact ⟨⟨k, hkey, rfl⟩, hsc⟩
      · exact el e z
    have nd1 : k1.Nodup := p1.nodup_iff.mpr (List.nodup_cons.mpr ⟨hk, nd⟩)
    have hz : es1.size = ks.length + 1 := by
      have := pc.length_eq
      rw [Array.length_toList, List.length_cons, Array.length_toList, hn] at this
      exact this
    have hb1 : es1.size < scanBound := by rw [hz]; exact room
    have led : w.params.followText "set-order" = true ∨ t1.led = true := hl.imp id fun z => by rw [l1]; exact z
    have fin : ∀ (h' : Heap) (k2 : List Key), Heap.SameBut a s.heap h' → SetM P w h' a k2 → k2.Perm k1 → Q true { s with heap := h' } := fun h' k2 sb r p => by
      refine hQ h' k2 true sb r (fun j => ?_) ?_
      · rw [(p.trans p1).mem_iff, List.mem_cons]
        exact Or.comm
      · rw [(p.trans p1).length_eq]
        exact Nat.le_refl _
    refine wpAny_bind (gw _ ?_)
    split
    · refine wpAny_bind ?_
      rw [hashByValue_scannable 8 hsc]
      refine wpAny_pure (tail_add ?_ ho hex hd el1 v1 nd1 hb1 ?_ ?_ ?_ ?_)
      · intro b s₁ Q' q; cases b <;> first | exact wpAny_pure q | exact wpAny_rule q
      · first | (split <;> first | exact f1 | exact SetTable.fits_plain_off f1) | exact f1
      · first | (split <;> exact r1) | exact r1
      · first | (split <;> exact led) | exact led
      · intro h' k2 sb r p; dsimp only; exact wpAny_pure (fin h' k2 sb r p)
    · refine wpAny_bind (wpAny_pure ?_)
      simp only [↓reduceIte]
      refine tail_add ?_ ho hex hd el1 v1 nd1 hb1 f1 r1 led ?_
      · intro b s₁ Q' q; cases b <;> first | exact wpAny_pure q | exact wpAny_rule q
      · intro h' k2 sb r p; dsimp only; exact wpAny_pure (fin h' k2 sb r p)
end
end PzS

set_option Elab.async false
set_option linter.all false
set_option maxRecDepth 100000
set_option maxHeartbeats 4000000
/-! S2: set(xs) of a list or a tuple. -/
namespace PzS
open PySem PySem.Spec PyProof.Rows L2
section
variable {P : Program} {w : World} {A : Around} {I : Addr} {fp wr : List Addr} {G : Array GenState → Array GenState → Prop} {n : Nat} {Pv : Nat → Value → Prop} {St : Nat → Shared → Prop} {R : Result → Shared → Prop}
theorem fill_loop (W : WalksS P w A.in1 I fp wr G n Pv St) (S : Addr) (hSf : S ∉ fp) (ks : List Key) (hn : n = ks.length) (room : ks.length + 1 < scanBound) (hval : ∀ i v, Pv i v → ∃ k, ks[i]? = some k ∧ RelV (kV k) v) :
    ∀ (m i : Nat) (s : Shared), n - i = m → i ≤ n → St i s → (∃ k2, SetM P w s.heap S k2 ∧ (∀ j, j ∈ k2 ↔ j ∈ ks.take i) ∧ k2.length ≤ i) →
      (∀ s' k2, Moved (S :: wr) G s s' → SetM P w s'.heap S k2 → (∀ j, j ∈ k2 ↔ j ∈ ks) → k2.length ≤ n → R (.ok (.ret .none)) s') →
      codeAny (model P w) A (.builtin "set.update.loop" ⟨[.ref S, .ref I], []⟩) R s := by
  have hSw : S ∉ wr := fun h => hSf (W.sub _ h)
  have sub : ∀ b ∈ wr, b ∈ S :: wr := fun b hb => List.mem_cons_of_mem _ hb
  intro m
  induction m with
  | zero =>
    intro i s hm hi st ⟨k2, S2, m2, l2⟩ hR
    have e : i = n := by omega
    subst e
    refine codeAny_builtin PyProof.Rows.F.entry_set_update_loop ?_
    rw [Around.under_plainId PyProof.Rows.F.plain_set_update_loop _]
    refine (show wpAny _ A.in1 (pyNext (.ref I) >>= _) _ _ s from wpAny_bind (W.done s _ _ st fun s' mv => ?_))
    refine (show wpAny _ A.in1 (ret Value.none) _ _ s' from wpAny_pure (hR s' k2 (mv.mono sub) (S2.at fun o q => mv.heap S o hSw q) (fun j => ?_) l2))
    rw [m2 j, hn, List.take_length]
  | succ m ih =>
    intro i s hm hi st ⟨k2, S2, m2, l2⟩ hR
    have hlt : i < n := by omega
    refine codeAny_builtin PyProof.Rows.F.entry_set_update_loop ?_
    rw [Around.under_plainId PyProof.Rows.F.plain_set_update_loop _]
    refine (show wpAny _ A.in1 (pyNext (.ref I) >>= _) _ _ s from wpAny_bind (W.item i s _ _ hlt st fun v s' hP st' mv => ?_))
    obtain ⟨k, hk, rk⟩ := hval i v hP
    have S3 : SetM P w s'.heap S k2 := S2.at fun o q => mv.heap S o hSw q
    refine (show wpAny _ A.in1 (holding [v] (setAdd S v) >>= _) _ _ s' from wpAny_bind (wpAny_holding ?_))
    unfold setAdd
    refine wpAny_holding (wpAny_bind ((mixKind P w).pyHash (k := k) (kV_is rk) ?_))
    refine add_hashed (s := { s' with toks := s'.toks + 1 }) rk S3 (by omega) fun h' k3 b sb S4 m4 l4 => ?_
    have m5 : ∀ j, j ∈ k3 ↔ j ∈ ks.take (i + 1) := fun j => by
      rw [m4 j, m2 j, List.take_succ, hk, List.mem_append]
      simp
    refine wpAny_pure ⟨plainId_quiet PyProof.Rows.F.plain_set_update_loop _, ih (i + 1) _ (by omega) hlt (W.frame _ s' _ _ st' (Nat.le_succ _) fun c hc o q => ?_) ⟨k3, S4, m5, by omega⟩ fun s'' k4 mv2 S5 m6 l6 => ?_⟩
    · rw [sb.2 c (fun z : c = S => hSf (by rw [← z]; exact hc))]; exact q
    · refine hR s'' k4 (Moved.trans W.gtrans ((mv.mono sub).then_heap (Nat.le_succ _) fun c o hc q => ?_) mv2) S5 m6 l6
      rw [sb.2 c (fun z : c = S => hc (by rw [z]; exact List.mem_cons_self))]; exact q
end
section
variable {P : Program} {w : World} {A : Around} {E : Value → Shared → Prop} {s : Shared}
theorem setM_fresh {h : Heap} (w : World) {a : Addr} (e : h.get? a = some { cls := .type "set", dict := none, data := .set #[] 0 (.fresh 0 0 (!w.params.followText "set-order")) }) : SetM P w h a [] := by
  refine ⟨_, #[], 0, _, e, ⟨rfl, rfl, rfl⟩, rfl, fun e he => by simp at he, .nil, List.nodup_nil, by decide, by rfl, List.Pairwise.nil, ?_⟩
  show _ ∨ (!w.params.followText "set-order") = true
  cases w.params.followText "set-order"
  · exact .inr rfl
  · exact .inl rfl
abbrev emptySet (w : World) : Obj := { cls := .type "set", dict := none, data := .set #[] 0 (.fresh 0 0 (!w.params.followText "set-order")) }
theorem vals_at : ∀ {xs : List V} {us : List Value}, Vals xs us → ∀ {i : Nat} {u : Value}, us[i]? = some u → ∃ x, xs[i]? = some x ∧ RelV x u
  | _, _, .nil, i, u, e => by simp at e
  | _, _, .cons r rs, 0, u, e => by
    simp at e
    subst e
    exact ⟨_, rfl, r⟩
  | _, _, .cons r rs, i + 1, u, e => by
    obtain ⟨x, h1, h2⟩ := vals_at rs (i := i) (by simpa using e)
    exact ⟨x, by simpa using h1, h2⟩
/-- set(x), by what its __init__ does -/
theorem call_set_by {x : Value} {Z : Value → Shared → Prop} {Q : Value → Shared → Prop}
    (hin : wpAny (model P w) A.in1.in1 (Builtin.«set.__init__» ⟨[.ref s.heap.objs.size, x], []⟩) (fun f s₂ => f = .done (.ret .none) ∧ Z .none s₂) E { s with heap := s.heap.push (emptySet w) })
    (h : ∀ s₂, Z .none s₂ → Q (.ref s.heap.objs.size) s₂) : wpAny (model P w) A (call (.type "set") [x]) Q E s := by
  obtain ⟨c, tl, hmro⟩ := PySem.F.called_set.mro
  have hmade := PySem.F.called_set.made
  have hsub := PySem.F.called_set.sub
  refine wpAny_call (codeAny_of_tree ?_)
  refine (show wpAny _ _ (callAny (.type "set") _) _ _ _ from wpAny_pure ⟨Code.quiet_builtin _ (by decide +kernel), codeAny_builtin PySem.F.entry_type_call ?_⟩)
  rw [Around.under_plain (weight_type_call_type "set" [x] []) rfl]
  have h1 := PySem.F.called_set.notType
  have h2 := PySem.F.called_set.canCreate
  have hct := PySem.F.typeCall_set_1 x
  repeat (any_goals (first | assumption | wp_step))
  refine codeAny_mono (code_set_led1 x (E := E) (Q₁ := fun obj s₁ => obj = .ref s.heap.objs.size ∧ s₁ = { s with heap := s.heap.push (emptySet w) }) ⟨rfl, rfl⟩) fun r s₁ hr => ?_
  cases r with
  | error e => exact hr
  | ok fl =>
    cases fl with
    | ret obj =>
      obtain ⟨rfl, rfl⟩ := hr
      have hS : (s.heap.push (emptySet w)).get? s.heap.objs.size = some (emptySet w) := Heap.get?_push_size _ rfl
      have hT : Shared.TypeIs { s with heap := s.heap.push (emptySet w) } (.ref s.heap.objs.size) "set" := ⟨_, hS, rfl⟩
      have hli := PySem.F.called_set.init.lookup
      have hbi := PySem.F.called_set.init.bind (.ref s.heap.objs.size)
      repeat (any_goals (first | assumption | wp_step))
      refine codeAny_mono (codeAny_call_builtin (R := wants (fun r s₂ => r = .none ∧ Z .none s₂) E) PySem.F.called_set.init.plain PySem.F.entry_set_init (check_set_init_1 hT ?_)) fun r₂ s₂ hr₂ => ?_
      · refine wpAny_mono hin ?_ fun _ _ z => z
        rintro f s2 ⟨rfl, z⟩
        exact ⟨rfl, z⟩
      · cases r₂ with
        | error e => exact hr₂
        | ok fl₂ =>
          cases fl₂ with
          | ret r =>
            obtain ⟨rfl, z⟩ := hr₂
            repeat (any_goals (first | assumption | wp_step))
            exact h _ z
          | _ => exact hr₂.elim
    | _ => exact hr.elim
theorem call_setM_list {l : Addr} {items : Array Value} (ks : List Key) {Q : Value → Shared → Prop} (hh : A.handled = none) (hl : s.heap.IsList l items) (hit : Vals (ks.map kV) items.toList) (room : ks.length + 1 < scanBound)
    (h : ∀ (h' : Heap) (tk : Nat) (k2 : List Key), SetM P w h' s.heap.objs.size k2 → (∀ j, j ∈ k2 ↔ j ∈ ks) → k2.length ≤ ks.length → (∀ b o, s.heap.get? b = some o → h'.get? b = some o) → Q (.ref s.heap.objs.size) { s with heap := h', toks := tk }) :
    wpAny (model P w) A (call (.type "set") [.ref l]) Q E s := by
  have hz : items.size = ks.length := by
    have q := hit.length
    simpa using q.symm
  refine call_set_by (Z := fun _ s₂ => ∃ h' tk k2, s₂ = { s with heap := h', toks := tk } ∧ SetM P w h' s.heap.objs.size k2 ∧ (∀ j, j ∈ k2 ↔ j ∈ ks) ∧ k2.length ≤ ks.length ∧ (∀ b o, s.heap.get? b = some o → h'.get? b = some o)) ?_ ?_
  · obtain ⟨ol, hol, hcl, nl, hdl⟩ := hl
    obtain ⟨ocls, odict, odata, oslots⟩ := ol
    simp only at hcl hdl
    subst hcl; subst hdl
    have hS : (s.heap.push (emptySet w)).get? s.heap.objs.size = some (emptySet w) := Heap.get?_push_size _ rfl
    have hT : Shared.TypeIs { s with heap := s.heap.push (emptySet w) } (.ref s.heap.objs.size) "set" := ⟨_, hS, rfl⟩
    have hol' : (s.heap.push (emptySet w)).get? l = some { cls := .type "list", dict := odict, data := .seq items nl, slots := oslots } := Heap.get?_push_of_some _ hol
    have hsls := PySem.F.sub_list_set
    have hslf := PySem.F.sub_list_frozenset
    have hne : (Value.type "list" == Value.type "dict") = false := by decide
    have hl1 : (s.heap.push (emptySet w)).IsList l items := ⟨_, hol', rfl, nl, rfl⟩
    unfold Builtin.«set.__init__» noKeywords Builtin.Frozenset.updateFrom
    generalize hPI : pyIter = PI
    wp_walk
    subst hPI
    refine wpAny_pyIter_list hl1 (wpAny_bind (wpAny_runValue ?_))
    have hlS : l < s.heap.objs.size := Heap.lt_size hol
    have hh3 : A.in1.in1.in1.handled = none := by simp [hh]
    have hneI : l ≠ (s.heap.push (emptySet w)).objs.size := by
      rw [Heap.size_push]; exact Nat.ne_of_lt (Nat.lt_succ_of_lt hlS)
    have hSf : s.heap.objs.size ∉ [(s.heap.push (emptySet w)).objs.size, l] := by
      rw [Heap.size_push]
      simp only [List.mem_cons, List.mem_singleton, List.not_mem_nil, or_false, not_or]
      exact ⟨Nat.ne_of_lt (Nat.lt_succ_self _), Nat.ne_of_gt hlS⟩
    have hval : ∀ (i : Nat) (v : Value), items[i]? = some v → ∃ k, ks[i]? = some k ∧ RelV (kV k) v := fun i v hv => by
      obtain ⟨x, hx, r⟩ := vals_at hit (i := i) (by rw [Array.getElem?_toList]; exact hv)
      rw [List.getElem?_map] at hx
      cases hq : ks[i]? with
      | none => rw [hq] at hx; cases hx
      | some k =>
        rw [hq] at hx
        cases hx
        exact ⟨k, rfl, r⟩
    refine fill_loop ((Walks.list hh3 _ l hneI items).toS) s.heap.objs.size hSf ks hz room hval (items.size - 0) 0 _ (by omega) (Nat.zero_le _)
      ⟨⟨_, Heap.get?_push_size _ rfl, rfl, rfl⟩, (hl1.push _)⟩ ?h0 ?hR
    case h0 => exact ⟨[], setM_fresh w (Heap.get?_push_of_some _ hS), fun j => by simp, Nat.le_refl _⟩
    case hR =>
      intro s' k2 hm S2 m2 l2
      obtain ⟨h', g2, d', tk', os'⟩ := s'
      have eg : g2 = s.gens := hm.gens
      have ed : d' = s.drawn := hm.drawn
      have eo : os' = s.os := hm.os
      subst eg; subst ed; subst eo
      show wpAny _ _ _ _ _ _
      refine wpAny_pure ?_
      show wpAny _ _ (ret Value.none) _ _ _
      refine wpAny_pure ⟨rfl, h', tk', k2, rfl, S2, m2, by omega, fun b o e => ?_⟩
      have hb : b < s.heap.objs.size := Heap.lt_size e
      have b1 : b ≠ s.heap.objs.size := Nat.ne_of_lt hb
      have b2 : b ≠ (s.heap.push (emptySet w)).objs.size := by
        rw [Heap.size_push]; exact Nat.ne_of_lt (Nat.lt_succ_of_lt hb)
      exact hm.heap b o (by simp only [List.mem_cons, List.mem_singleton, List.not_mem_nil, or_false, not_or]; exact ⟨b1, b2⟩) (Heap.get?_push_of_some _ (Heap.get?_push_of_some _ e))
  · rintro s2 ⟨h', tk, k2, rfl, S2, m2, l2, kp⟩
    exact h _ _ _ S2 m2 l2 kp
theorem call_setM_tuple {l : Addr} {items : Array Value} (ks : List Key) {Q : Value → Shared → Prop} (hh : A.handled = none) (hl : s.heap.IsTuple l items) (hit : Vals (ks.map kV) items.toList) (room : ks.length + 1 < scanBound)
    (h : ∀ (h' : Heap) (tk : Nat) (k2 : List Key), SetM P w h' s.heap.objs.size k2 → (∀ j, j ∈ k2 ↔ j ∈ ks) → k2.length ≤ ks.length → (∀ b o, s.heap.get? b = some o → h'.get? b = some o) → Q (.ref s.heap.objs.size) { s with heap := h', toks := tk }) :
    wpAny (model P w) A (call (.type "set") [.ref l]) Q E s := by
  have hz : items.size = ks.length := by
    have q := hit.length
    simpa using q.symm
  refine call_set_by (Z := fun _ s₂ => ∃ h' tk k2, s₂ = { s with heap := h', toks := tk } ∧ SetM P w h' s.heap.objs.size k2 ∧ (∀ j, j ∈ k2 ↔ j ∈ ks) ∧ k2.length ≤ ks.length ∧ (∀ b o, s.heap.get? b = some o → h'.get? b = some o)) ?_ ?_
  · obtain ⟨ol, hol, hcl, nl, hdl⟩ := hl
    obtain ⟨ocls, odict, odata, oslots⟩ := ol
    simp only at hcl hdl
    subst hcl; subst hdl
    have hS : (s.heap.push (emptySet w)).get? s.heap.objs.size = some (emptySet w) := Heap.get?_push_size _ rfl
    have hT : Shared.TypeIs { s with heap := s.heap.push (emptySet w) } (.ref s.heap.objs.size) "set" := ⟨_, hS, rfl⟩
    have hol' : (s.heap.push (emptySet w)).get? l = some { cls := .type "tuple", dict := odict, data := .seq items nl, slots := oslots } := Heap.get?_push_of_some _ hol
    have hsls := PySem.F.sub_tuple_set
    have hslf := PySem.F.sub_tuple_frozenset
    have hne : (Value.type "tuple" == Value.type "dict") = false := by decide
    have hl1 : (s.heap.push (emptySet w)).IsTuple l items := ⟨_, hol', rfl, nl, rfl⟩
    unfold Builtin.«set.__init__» noKeywords Builtin.Frozenset.updateFrom
    generalize hPI : pyIter = PI
    wp_walk
    subst hPI
    refine wpAny_pyIter_tuple hl1 (wpAny_bind (wpAny_runValue ?_))
    have hlS : l < s.heap.objs.size := Heap.lt_size hol
    have hh3 : A.in1.in1.in1.handled = none := by simp [hh]
    have hneI : l ≠ (s.heap.push (emptySet w)).objs.size := by
      rw [Heap.size_push]; exact Nat.ne_of_lt (Nat.lt_succ_of_lt hlS)
    have hSf : s.heap.objs.size ∉ [(s.heap.push (emptySet w)).objs.size, l] := by
      rw [Heap.size_push]
      simp only [List.mem_cons, List.mem_singleton, List.not_mem_nil, or_false, not_or]
      exact ⟨Nat.ne_of_lt (Nat.lt_succ_self _), Nat.ne_of_gt hlS⟩
    have hval : ∀ (i : Nat) (v : Value), items[i]? = some v → ∃ k, ks[i]? = some k ∧ RelV (kV k) v := fun i v hv => by
      obtain ⟨x, hx, r⟩ := vals_at hit (i := i) (by rw [Array.getElem?_toList]; exact hv)
      rw [List.getElem?_map] at hx
      cases hq : ks[i]? with
      | none => rw [hq] at hx; cases hx
      | some k =>
        rw [hq] at hx
        cases hx
        exact ⟨k, rfl, r⟩
    refine fill_loop ((Walks.tuple hh3 _ l hneI items).toS) s.heap.objs.size hSf ks hz room hval (items.size - 0) 0 _ (by omega) (Nat.zero_le _)
      ⟨⟨_, Heap.get?_push_size _ rfl, rfl, rfl⟩, (hl1.push _)⟩ ?h0 ?hR
    case h0 => exact ⟨[], setM_fresh w (Heap.get?_push_of_some _ hS), fun j => by simp, Nat.le_refl _⟩
    case hR =>
      intro s' k2 hm S2 m2 l2
      obtain ⟨h', g2, d', tk', os'⟩ := s'
      have eg : g2 = s.gens := hm.gens
      have ed : d' = s.drawn := hm.drawn
      have eo : os' = s.os := hm.os
      subst eg; subst ed; subst eo
      show wpAny _ _ _ _ _ _
      refine wpAny_pure ?_
      show wpAny _ _ (ret Value.none) _ _ _
      refine wpAny_pure ⟨rfl, h', tk', k2, rfl, S2, m2, by omega, fun b o e => ?_⟩
      have hb : b < s.heap.objs.size := Heap.lt_size e
      have b1 : b ≠ s.heap.objs.size := Nat.ne_of_lt hb
      have b2 : b ≠ (s.heap.push (emptySet w)).objs.size := by
        rw [Heap.size_push]; exact Nat.ne_of_lt (Nat.lt_succ_of_lt hb)
      exact hm.heap b o (by simp only [List.mem_cons, List.mem_singleton, List.not_mem_nil, or_false, not_or]; exact ⟨b1, b2⟩) (Heap.get?_push_of_some _ (Heap.get?_push_of_some _ e))
  · rintro s2 ⟨h', tk, k2, rfl, S2, m2, l2, kp⟩
    exact h _ _ _ S2 m2 l2 kp
end
end PzS

set_option Elab.async false
set_option linter.all false
set_option maxRecDepth 100000
set_option maxHeartbeats 4000000
/-! S3: sorted(..), of data in any order. -/
namespace PzS
open PySem PySem.Spec PySem.W PyProof.Rows L2 Pz
section
variable {P : Program} {w : World} {A : Around} {E : Value → Shared → Prop} {s : Shared}
theorem collect_tup {l : Addr} {vs : List Value} {Q : List Value → Shared → Prop} (hl : s.heap.IsTuple l vs.toArray)
    (h : Q vs { s with heap := (s.heap.push (seqObj "list" #[] 0)).update s.heap.objs.size (Obj.mapSeq (· ++ vs.toArray)) }) (hz : vs.length ≤ sizeLine) : wpAny (model P w) A (collect (.ref l)) Q E s := by
  obtain ⟨o, ho, hc, n, hd⟩ := id hl
  unfold collect
  refine wpAny_bind (wpAny_runValue (codeAny_builtin entry_proto_collect' ?_))
  refine (show wpAny _ _ (do again (.builtin "list.__iadd__" ⟨[← newList [], .ref l], []⟩)) _ _ s from ?_)
  refine wpAny_bind (wpAny_newList (wpAny_pure ⟨Code.quiet_builtin _ (by decide +kernel), codeAny_builtin entry_list_iadd' ?_⟩))
  refine (show wpAny _ _ (Builtin.List.listExtendWith (.ref s.heap.objs.size) (.ref l) (.ref s.heap.objs.size)) _ _ { s with heap := s.heap.push (seqObj "list" #[] 0) } from ?_)
  unfold Builtin.List.listExtendWith
  have ho' : (s.heap.push (seqObj "list" #[] 0)).get? l = some o := Heap.get?_push_of_some _ ho
  refine wpAny_bind (wpAny_typeOf (T := "tuple") ⟨o, ho', hc⟩ ?_)
  have ht : (Value.type "tuple" == Value.type "tuple") = true := by rfl
  rw [if_pos (by rw [ht]; simp)]
  refine wpAny_bind (listItems_at ho' hd (wpAny_bind (listItems_at (xs := #[]) (n := 0) (Heap.get?_push_size _ rfl) rfl ?_)))
  rw [if_neg (by simp)]
  refine wpAny_bind (listUpdate_at (xs := #[]) (n := 0) (Heap.get?_push_size _ rfl) rfl ?_ (Nat.zero_le _) (by show (#[] ++ vs.toArray).size ≤ sizeLine + 1; simp only [Array.size_append, List.size_toArray, List.length_nil]; omega))
  refine wpAny_pure (show wpAny (model P w) A (do
      let o ← load s.heap.objs.size
      match o.data with
      | .seq xs _ => pure xs.toList
      | _ => unsupported "internal:collect") Q E { s with heap := (s.heap.push (seqObj "list" #[] 0)).update s.heap.objs.size (Obj.mapSeq (· ++ vs.toArray)) } from ?_)
  refine wpAny_bind (wpAny_load (get?_update_seq (Heap.get?_push_size _ rfl) _) ?_)
  refine (show wpAny _ _ (pure ((#[] : Array Value) ++ vs.toArray).toList) Q E _ from ?_)
  rw [show ((#[] : Array Value) ++ vs.toArray).toList = vs by simp]
  exact wpAny_pure h
/-- sorted(x), by what x gives when it is walked -/
theorem sorted_by {x : Value} {C : List Value → Shared → Prop} {Q : Value → Shared → Prop} (hcol : ∀ (E' : Value → Shared → Prop), wpAny (model P w) A.in1 (collect x) C E' s)
    (h : ∀ vs s1, C vs s1 → ∃ (ds : List D) (R : Value → D → Prop), EachIs R vs ds ∧ EachIs (fun v d => ∃ as, Reads s1.heap v (pd d) as) vs ds ∧ (∀ a ∈ ds, ∀ b ∈ ds, alikeD a b = true) ∧ Sortable (ds.map pd) ∧ ds.length ≤ sizeLine ∧ (∀ d ∈ ds, A.units + 2 + (pd d).depth < cLine) ∧
      ∀ (h' : Heap) (p : Addr) (c : Nat) (out : List Value), (∀ b o, s1.heap.get? b = some o → h'.get? b = some o) → s1.heap.objs.size ≤ p → h'.get? p = some (seqObj "list" out.toArray c) → EachIs R out (sortD ds) → Q (.ref p) { s1 with heap := h' }) :
    wpAny (model P w) A (call (.builtin "sorted") [x]) Q E s := by
  refine Calls.call_function_entry kind_sorted plain_sorted entry_sorted (args_sorted1 _) ?_
  unfold Builtin.«sorted»
  refine wpAny_bind (m := checkCount "sorted" 1 1 _) (wpAny_pure (wpAny_bind (wpAny_mono (hcol _) (fun vs s1 hC => ?_) fun _ _ z => z)))
  obtain ⟨ds, R, e1, e2, al, so, hz, hu, fin⟩ := h vs s1 hC
  have hL : vs.length ≤ sizeLine := by rw [e1.length]; exact hz
  refine wpAny_bind (wpAny_newList ?_ hL)
  have hoL : (s1.heap.push (seqObj "list" vs.toArray 0)).get? s1.heap.objs.size = some (seqObj "list" vs.toArray 0) := Heap.get?_push_size _ rfl
  have hal : AllAlike (ds.map pd) := fun d hd d' hd' => by
    obtain ⟨a, ha, rfl⟩ := List.mem_map.mp hd
    obtain ⟨b, hb, rfl⟩ := List.mem_map.mp hd'
    exact alike_pd a b (al a ha b hb)
  have old : ∀ b o, s1.heap.get? b = some o → (sortingHeap (s1.heap.push (seqObj "list" vs.toArray 0)) s1.heap.objs.size vs).get? b = some o := fun b o e =>
    sortingHeap_old (Nat.ne_of_lt (Heap.lt_size e)) (Heap.get?_push_of_some _ e)
  have e3 : EachIs (fun v d => ∃ as, Reads (sortingHeap (s1.heap.push (seqObj "list" vs.toArray 0)) s1.heap.objs.size vs) v (pd d) as) vs ds := e2.mono fun _ _ ⟨as, r⟩ => ⟨as, PyProof.Rows.Reads.keeps old r⟩
  have S := SortsAt.data (prog := P) (w := w) (A := A.in1.in1) (s := { s1 with heap := sortingHeap (s1.heap.push (seqObj "list" vs.toArray 0)) s1.heap.objs.size vs }) (each_map (R := fun v d => ∃ as, Reads (sortingHeap (s1.heap.push (seqObj "list" vs.toArray 0)) s1.heap.objs.size vs) v d as) pd e3) hal so
    (bound_map (fun b hb => hu b hb))
  refine wpAny_bind (wpAny_holding (wpAny_call_entry slot_list_sort ⟨_, hoL, rfl⟩ entry_list_sort (list_sort_vals (s := { s1 with heap := s1.heap.push (seqObj "list" vs.toArray 0) }) hoL S hL ⟨_, rfl, ?_⟩) (args_list_sort _)))
  obtain ⟨c, hc⟩ := sortedHeap_at (vs := vs) (out := (sortVals (dataKind (sortingHeap (s1.heap.push (seqObj "list" vs.toArray 0)) s1.heap.objs.size vs) (ds.map pd)) false vs vs).toArray) hoL
  refine wpAny_pure ⟨_, rfl, fin _ s1.heap.objs.size c _ (fun b u e => ?_) (Nat.le_refl _) hc ?_⟩
  · have q := Heap.lt_size e
    rw [sortedHeap_old (Nat.ne_of_lt q) (by rw [size_push']; exact Nat.lt_succ_of_lt q)]
    exact Heap.get?_push_of_some _ e
  · rw [sortD_merge al]
    exact sortVals_data false e1 e3 hal
end
end PzS

set_option Elab.async false
set_option linter.all false
set_option maxRecDepth 100000
set_option maxHeartbeats 4000000
/-! S4: sorted(x), sorted(set(x)) by the interpreter. -/
namespace Pz
open PySem PySem.Spec PySem.W PyProof.Rows L2 PzS

/-! ### what can be sorted -/
theorem atom_alike {x y : D} (h : (isIntD x = true ∧ isIntD y = true) ∨ (isStrD x = true ∧ isStrD y = true)) : alikeD x y = true := by
  rcases h with ⟨h1, h2⟩ | ⟨h1, h2⟩
  · cases x <;> first | (cases h1; done) | skip
    cases y <;> first | (cases h2; done) | rfl
  · cases x <;> first | (cases h1; done) | skip
    cases y <;> first | (cases h2; done) | rfl
theorem atom_depth {x : D} (h : isIntD x = true ∨ isStrD x = true) : (pd x).depth = 0 := by
  rcases h with h | h <;> (cases x <;> first | (cases h; done) | (simp [pd, PyData.depth]))
theorem okSort_ok {xs : List D} (h : okSort xs = true) : (∀ a ∈ xs, ∀ b ∈ xs, alikeD a b = true) ∧ Sortable (xs.map pd) ∧ ∀ d ∈ xs, (pd d).depth ≤ 20 := by
  unfold okSort at h
  simp only [Bool.or_eq_true, Bool.and_eq_true, List.all_eq_true] at h
  rcases h with (h | h) | ⟨h1, h2⟩
  · refine ⟨fun a ha b hb => atom_alike (.inl ⟨h a ha, h b hb⟩), .inr fun d hd => ?_, fun d hd => by rw [atom_depth (.inl (h d hd))]; omega⟩
    obtain ⟨x, hx, rfl⟩ := List.mem_map.mp hd
    have := h x hx
    cases x <;> first | (cases this; done) | simp [pd]
  · refine ⟨fun a ha b hb => atom_alike (.inr ⟨h a ha, h b hb⟩), .inr fun d hd => ?_, fun d hd => by rw [atom_depth (.inr (h d hd))]; omega⟩
    obtain ⟨x, hx, rfl⟩ := List.mem_map.mp hd
    have := h x hx
    cases x <;> first | (cases this; done) | simp [pd]
  · refine ⟨h2, .inl fun d hd => ?_, fun d hd => shal_depth 20 d (h1 d hd).2⟩
    obtain ⟨x, hx, rfl⟩ := List.mem_map.mp hd
    have := (h1 x hx).1
    cases x <;> first | (cases this; done) | skip
    rename_i ys
    cases ys with
    | nil => cases this
    | cons y ys => exact ⟨pd y, pds ys, by rw [pd, pds]⟩

section
variable {X : Cx} {pins : List (Addr × Obj)} {σ : L2.St} {H : Hp} {s : Shared} {R : Rho}
/-- the values stand for data -/
def StandsFor (K : PySem.W.Frag) (R : Rho) (H : Hp) (v : Value) (d : D) : Prop := ∃ x, Rep K R H d x ∧ RelV x v
theorem each_reps {K : PySem.W.Frag} : ∀ {ds : List D} {xs : List V} {vs : List Value}, Reps K R H ds xs → Vals xs vs → EachIs (StandsFor K R H) vs ds
  | [], xs, vs, r, q => by
    cases r
    cases q
    exact .nil
  | d :: ds, xs, vs, r, q => by
    obtain ⟨x, rest, rfl, r1, r2⟩ := r
    cases q with
    | cons q1 q2 => exact .cons ⟨x, r1, q1⟩ (each_reps r2 q2)
theorem reps_each {K : PySem.W.Frag} : ∀ {ds : List D} {vs : List Value}, EachIs (StandsFor K R H) vs ds → ∃ xs, Reps K R H ds xs ∧ Vals xs vs
  | _, _, .nil => ⟨[], rfl, .nil⟩
  | _, _, .cons ⟨x, r, q⟩ t => by
    obtain ⟨xs, h1, h2⟩ := reps_each t
    exact ⟨x :: xs, ⟨x, xs, rfl, r, h1⟩, .cons q h2⟩
theorem each_reads (I : Inv X pins σ H s) : ∀ {ds : List D} {xs : List V} {vs : List Value}, (∀ d ∈ ds, alikeD d d = true) → Reps X.K R H ds xs → Vals xs vs → EachIs (fun v d => ∃ as, Reads s.heap v (pd d) as) vs ds
  | [], xs, vs, _, r, q => by
    cases r
    cases q
    exact .nil
  | d :: ds, xs, vs, h, r, q => by
    obtain ⟨x, rest, rfl, r1, r2⟩ := r
    cases q with
    | cons q1 q2 => exact .cons (reads_of I d x _ (h d List.mem_cons_self) r1 q1) (each_reads I (fun e he => h e (List.mem_cons_of_mem _ he)) r2 q2)
theorem each_keep {h h' : Heap} {vs : List Value} {ds : List D} (k : ∀ b o, h.get? b = some o → h'.get? b = some o) (e : EachIs (fun v d => ∃ as, Reads h v (pd d) as) vs ds) : EachIs (fun v d => ∃ as, Reads h' v (pd d) as) vs ds :=
  e.mono fun _ _ ⟨as, r⟩ => ⟨as, PyProof.Rows.Reads.keeps k r⟩
theorem cl_sorted (hu : X.A.units + 64 < cLine) : CallR X (.builtin "sorted") (rdCl X.K (bltD .sorted)) := by
  refine cl1 (fun pins s σ H v us Q R T T' x d I r st rx e po => ?_) (no2 (by decide) (by decide))
  replace e : (match isSeq T x with
    | some xs => okIf (okSort xs) (D.lst (sortD xs)) T
    | none => .bad) = .ok d T' := e
  cases e1 : isSeq T x with
  | none => rw [e1] at e; cases e
  | some ds =>
    rw [e1] at e
    obtain ⟨ho, rfl, rfl⟩ := okIf_ok e
    obtain ⟨al, so, dp⟩ := okSort_ok ho
    obtain ⟨a, vs, rfl, q, rs⟩ := isSeq_at st e1 rx
    rw [Vals.ref1 r]
    have main : ∀ its : List Value, Vals vs its → vs.length ≤ sizeLine → (∀ (C : List Value → Shared → Prop) (E' : Value → Shared → Prop), C its { s with heap := (s.heap.push (seqObj "list" #[] 0)).update s.heap.objs.size (Obj.mapSeq (· ++ its.toArray)) } → wpAny (model X.prog X.w) X.A.in1 (collect (.ref a)) C E' s) →
        wpAny (model X.prog X.w) X.A (call (.builtin "sorted") [.ref a]) (EP X pins σ Q) X.xe s := by
      intro its rv hz col
      have keep : ∀ b o, s.heap.get? b = some o → ((s.heap.push (seqObj "list" #[] 0)).update s.heap.objs.size (Obj.mapSeq (· ++ its.toArray))).get? b = some o := fun b o e => by
        rw [Heap.get?_update_ne _ _ _ _ (Nat.ne_of_lt (Heap.lt_size e))]
        exact Heap.get?_push_of_some _ e
      refine sorted_by (C := fun vs' s' => vs' = its ∧ s' = { s with heap := (s.heap.push (seqObj "list" #[] 0)).update s.heap.objs.size (Obj.mapSeq (· ++ its.toArray)) }) (fun E' => col _ E' ⟨rfl, rfl⟩) ?_
      rintro vs' s' ⟨rfl, rfl⟩
      refine ⟨ds, StandsFor X.K R H, each_reps rs rv, each_keep keep (each_reads I (fun d hd => al d hd d hd) rs rv), al, so, by rw [← rs.length]; exact hz, fun d hd => ?_, fun h' p c out k hp hg eo => ?_⟩
      · have := dp d hd
        omega
      · obtain ⟨ys, r1, r2⟩ := reps_each eo
        have hp' : s.heap.objs.size ≤ p := by
          refine Nat.le_trans ?_ hp
          rw [Heap.size_update, size_push']
          exact Nat.le_succ _
        have hlen : ys.length ≤ sizeLine := by
          rw [r1.length, (show (sortD ds).length = ds.length by rw [sortD_eq]; exact (sortG_perm _ ds).length_eq), ← rs.length]
          exact hz
        exact ⟨.ref p, upd H p (.lst ys), I.laid (t' := s.toks) (fun b o e => k b o (keep b o e)) hp' ⟨hlen, out, c, r2, hg⟩, rfl, Post.newLst st po r1 p (I.hok.fresh hp')⟩
    rcases q with q | q
    · obtain ⟨its, rv, pl, hz⟩ := I.list q
      exact main its rv hz fun C E' hC => collect_list pl.isList hC (by rw [← rv.length]; exact hz)
    · obtain ⟨its, rv, pl, hz⟩ := I.tuple q
      exact main its rv hz fun C E' hC => collect_tup pl hC (by rw [← rv.length]; exact hz)
end
end Pz

set_option Elab.async false
set_option linter.all false
set_option maxRecDepth 100000
set_option maxHeartbeats 4000000
/-! S5: sorted(set(x)). -/
namespace Pz
open PySem PySem.Spec PySem.W PyProof.Rows L2 PzS

/-! ### ints, or texts: the order is strict and decides -/
def kd : Key → D
  | .inl i => .int i
  | .inr x => .str x
theorem kd_inj {a b : Key} (h : kd a = kd b) : a = b := by
  cases a <;> cases b <;> cases h <;> rfl
def AllOne (xs : List D) : Prop := (∀ x ∈ xs, isIntD x = true) ∨ ∀ x ∈ xs, isStrD x = true
theorem cps_inj {a b : Str} (h : a.cps.toList = b.cps.toList) : a = b := str_of_cps h
theorem ltS_irr (a : Str) : ltS a a = false := by
  unfold ltS
  exact decide_eq_false (List.lt_irrefl _)
theorem ltS_tr {a b c : Str} (h1 : ltS a b = true) (h2 : ltS b c = true) : ltS a c = true := by
  unfold ltS at *
  exact decide_eq_true (List.lt_trans (of_decide_eq_true h1) (of_decide_eq_true h2))
theorem ltS_tot {a b : Str} (h1 : ltS a b = false) (h2 : ltS b a = false) : a = b := by
  unfold ltS at *
  exact cps_inj (List.le_antisymm (List.not_lt.mp (of_decide_eq_false h2)) (List.not_lt.mp (of_decide_eq_false h1)))
structure Strict (xs : List D) : Prop where
  irr : ∀ x ∈ xs, lessD x x = false
  tr : ∀ x ∈ xs, ∀ y ∈ xs, ∀ z ∈ xs, lessD x y = true → lessD y z = true → lessD x z = true
  tot : ∀ x ∈ xs, ∀ y ∈ xs, lessD x y = false → lessD y x = false → x = y
theorem AllOne.strict {xs : List D} (h : AllOne xs) : Strict xs := by
  rcases h with h | h
  · have sh : ∀ x ∈ xs, ∃ i, x = .int i := fun x hx => by
      have := h x hx
      cases x <;> first | (cases this; done) | exact ⟨_, rfl⟩
    refine ⟨fun x hx => ?_, fun x hx y hy z hz => ?_, fun x hx y hy => ?_⟩
    · obtain ⟨i, rfl⟩ := sh x hx
      simp [lessD]
    · obtain ⟨i, rfl⟩ := sh x hx
      obtain ⟨j, rfl⟩ := sh y hy
      obtain ⟨k, rfl⟩ := sh z hz
      simp only [lessD, decide_eq_true_eq]
      omega
    · obtain ⟨i, rfl⟩ := sh x hx
      obtain ⟨j, rfl⟩ := sh y hy
      simp only [lessD, decide_eq_false_iff_not, D.int.injEq]
      omega
  · have sh : ∀ x ∈ xs, ∃ i, x = .str i := fun x hx => by
      have := h x hx
      cases x <;> first | (cases this; done) | exact ⟨_, rfl⟩
    refine ⟨fun x hx => ?_, fun x hx y hy z hz => ?_, fun x hx y hy => ?_⟩
    · obtain ⟨i, rfl⟩ := sh x hx
      simp only [lessD]
      exact ltS_irr i
    · obtain ⟨i, rfl⟩ := sh x hx
      obtain ⟨j, rfl⟩ := sh y hy
      obtain ⟨k, rfl⟩ := sh z hz
      simp only [lessD]
      exact ltS_tr
    · obtain ⟨i, rfl⟩ := sh x hx
      obtain ⟨j, rfl⟩ := sh y hy
      simp only [lessD]
      exact fun a b => congrArg D.str (ltS_tot a b)
theorem insU_mem {z x : D} : ∀ (ys : List D), Strict (x :: ys) → (z ∈ insU x ys ↔ z = x ∨ z ∈ ys)
  | [], _ => by simp [insU]
  | y :: ys, h => by
    have sub : Strict (x :: ys) := ⟨fun a ha => h.irr a (by rcases List.mem_cons.mp ha with e | e <;> simp [e]), fun a ha b hb c hc => h.tr a (by rcases List.mem_cons.mp ha with e | e <;> simp [e]) b (by rcases List.mem_cons.mp hb with e | e <;> simp [e]) c (by rcases List.mem_cons.mp hc with e | e <;> simp [e]),
      fun a ha b hb => h.tot a (by rcases List.mem_cons.mp ha with e | e <;> simp [e]) b (by rcases List.mem_cons.mp hb with e | e <;> simp [e])⟩
    unfold insU
    split
    · rw [List.mem_cons, insU_mem ys sub, List.mem_cons]
      exact ⟨fun q => by rcases q with q | q | q <;> simp [q], fun q => by rcases q with q | q | q <;> simp [q]⟩
    · split
      · rw [List.mem_cons]
      · rename_i _ a _ b
        have e : x = y := h.tot x (by simp) y (by simp) b a
        subst e
        exact ⟨.inr, fun q => q.elim (fun q => by simp [q]) id⟩
theorem insU_sorted {x : D} : ∀ (ys : List D), Strict (x :: ys) → ys.Pairwise (fun a b => lessD a b = true) → (insU x ys).Pairwise (fun a b => lessD a b = true)
  | [], _, _ => List.pairwise_singleton _ _
  | y :: ys, h, p => by
    have sub : Strict (x :: ys) := ⟨fun a ha => h.irr a (by rcases List.mem_cons.mp ha with e | e <;> simp [e]), fun a ha b hb c hc => h.tr a (by rcases List.mem_cons.mp ha with e | e <;> simp [e]) b (by rcases List.mem_cons.mp hb with e | e <;> simp [e]) c (by rcases List.mem_cons.mp hc with e | e <;> simp [e]),
      fun a ha b hb => h.tot a (by rcases List.mem_cons.mp ha with e | e <;> simp [e]) b (by rcases List.mem_cons.mp hb with e | e <;> simp [e])⟩
    obtain ⟨p1, p2⟩ := List.pairwise_cons.mp p
    unfold insU
    split
    · rename_i a
      refine List.pairwise_cons.mpr ⟨fun z hz => ?_, insU_sorted ys sub p2⟩
      rcases (insU_mem ys sub).mp hz with e | hz
      · rw [e]; exact a
      · exact p1 z hz
    · split
      · rename_i a b
        refine List.pairwise_cons.mpr ⟨fun z hz => ?_, p⟩
        rcases List.mem_cons.mp hz with e | hz
        · rw [e]; exact b
        · exact h.tr x (by simp) y (by simp) z (by simp [hz]) b (p1 z hz)
      · exact p
theorem Strict.sub {xs ys : List D} (h : Strict xs) (s : ∀ y ∈ ys, y ∈ xs) : Strict ys :=
  ⟨fun a ha => h.irr a (s a ha), fun a ha b hb c hc => h.tr a (s a ha) b (s b hb) c (s c hc), fun a ha b hb => h.tot a (s a ha) b (s b hb)⟩
theorem sortU_mem {z : D} : ∀ (xs : List D), Strict xs → (z ∈ sortU xs ↔ z ∈ xs)
  | [], _ => by simp [sortU]
  | x :: xs, h => by
    have hs := h.sub (ys := xs) fun y hy => List.mem_cons_of_mem _ hy
    have ih := fun z => sortU_mem (z := z) xs hs
    rw [sortU, insU_mem _ (h.sub fun y hy => ?_), ih, List.mem_cons]
    rcases List.mem_cons.mp hy with e | hy
    · rw [e]; exact List.mem_cons_self
    · exact List.mem_cons_of_mem _ ((ih y).mp hy)
theorem sortU_sorted : ∀ (xs : List D), Strict xs → (sortU xs).Pairwise (fun a b => lessD a b = true)
  | [], _ => List.Pairwise.nil
  | x :: xs, h => by
    have hs := h.sub (ys := xs) fun y hy => List.mem_cons_of_mem _ hy
    refine insU_sorted _ (h.sub fun y hy => ?_) (sortU_sorted xs hs)
    rcases List.mem_cons.mp hy with e | hy
    · rw [e]; exact List.mem_cons_self
    · exact List.mem_cons_of_mem _ ((sortU_mem xs hs).mp hy)
theorem sorted_uniq : ∀ (xs ys : List D), Strict (xs ++ ys) → xs.Pairwise (fun a b => lessD a b = true) → ys.Pairwise (fun a b => lessD a b = true) → (∀ z, z ∈ xs ↔ z ∈ ys) → xs = ys
  | [], ys, _, _, _, m => by
    cases ys with
    | nil => rfl
    | cons y ys => exact absurd ((m y).mpr List.mem_cons_self) (by simp)
  | x :: xs, [], _, _, _, m => absurd ((m x).mp List.mem_cons_self) (by simp)
  | x :: xs, y :: ys, h, p, q, m => by
    obtain ⟨p1, p2⟩ := List.pairwise_cons.mp p
    obtain ⟨q1, q2⟩ := List.pairwise_cons.mp q
    have hx : x ∈ (x :: xs) ++ (y :: ys) := by simp
    have hy : y ∈ (x :: xs) ++ (y :: ys) := by simp
    have e : x = y := by
      rcases List.mem_cons.mp ((m x).mp List.mem_cons_self) with e | h1
      · exact e
      · rcases List.mem_cons.mp ((m y).mpr List.mem_cons_self) with e | h2
        · exact e.symm
        · have a := q1 x h1
          have b := p1 y h2
          have c := h.tr x hx y hy x hx b a
          rw [h.irr x hx] at c
          cases c
    subst e
    have nx : x ∉ xs := fun z => by
      have := p1 x z
      rw [h.irr x hx] at this
      cases this
    have ny : x ∉ ys := fun z => by
      have := q1 x z
      rw [h.irr x hx] at this
      cases this
    rw [sorted_uniq xs ys (h.sub fun z hz => by rcases List.mem_append.mp hz with e | e <;> simp [e]) p2 q2 fun z => ⟨fun hz => ?_, fun hz => ?_⟩]
    · rcases List.mem_cons.mp ((m z).mp (List.mem_cons_of_mem _ hz)) with e | hz2
      · subst e; exact absurd hz nx
      · exact hz2
    · rcases List.mem_cons.mp ((m z).mpr (List.mem_cons_of_mem _ hz)) with e | hz2
      · subst e; exact absurd hz ny
      · exact hz2
theorem sortD_strict {xs : List D} (h : Strict xs) (nd : xs.Nodup) : (sortD xs).Pairwise (fun a b => lessD a b = true) := by
  rw [sortD_eq]
  induction xs with
  | nil => exact List.Pairwise.nil
  | cons x xs ih =>
    obtain ⟨n1, n2⟩ := List.nodup_cons.mp nd
    have hs := h.sub (ys := xs) fun y hy => List.mem_cons_of_mem _ hy
    have ih := ih hs n2
    rw [sortG]
    have key : ∀ ys : List D, (∀ y ∈ ys, y ∈ xs) → ys.Pairwise (fun a b => lessD a b = true) → (insG lessD x ys).Pairwise (fun a b => lessD a b = true) := by
      intro ys
      induction ys with
      | nil => exact fun _ _ => List.pairwise_singleton _ _
      | cons y ys ih2 =>
        intro hm p
        obtain ⟨p1, p2⟩ := List.pairwise_cons.mp p
        have hyx : y ∈ x :: xs := List.mem_cons_of_mem _ (hm y List.mem_cons_self)
        unfold insG
        split
        · rename_i a
          refine List.pairwise_cons.mpr ⟨fun z hz => ?_, ih2 (fun z hz => hm z (List.mem_cons_of_mem _ hz)) p2⟩
          rcases List.mem_cons.mp ((insG_perm _ x ys).mem_iff.mp hz) with e | hz
          · rw [e]; exact a
          · exact p1 z hz
        · rename_i a
          have b : lessD x y = true := by
            cases b : lessD x y with
            | true => rfl
            | false =>
              have e := h.tot x List.mem_cons_self y hyx b a
              subst e
              exact absurd (hm x List.mem_cons_self) n1
          refine List.pairwise_cons.mpr ⟨fun z hz => ?_, p⟩
          rcases List.mem_cons.mp hz with e | hz
          · rw [e]; exact b
          · exact h.tr x List.mem_cons_self y hyx z (List.mem_cons_of_mem _ (hm z (List.mem_cons_of_mem _ hz))) b (p1 z hz)
    exact key _ (fun y hy => (sortG_perm _ xs).mem_iff.mp hy) ih
/-- sorted(set(xs)): from the set's keys in any order -/
theorem sort_keys {ks k2 : List Key} (h : AllOne (ks.map kd)) (nd : k2.Nodup) (m : ∀ j, j ∈ k2 ↔ j ∈ ks) : sortD (k2.map kd) = sortU (ks.map kd) := by
  have S := h.strict
  have sub : ∀ y ∈ k2.map kd, y ∈ ks.map kd := fun y hy => by
    obtain ⟨k, hk, rfl⟩ := List.mem_map.mp hy
    exact List.mem_map.mpr ⟨k, (m k).mp hk, rfl⟩
  have S2 := S.sub sub
  have nd2 : (k2.map kd).Nodup := by
    rw [List.Nodup, List.pairwise_map]
    exact nd.imp fun a b => a (kd_inj b)
  have pm : ∀ z, z ∈ sortD (k2.map kd) ↔ z ∈ k2.map kd := fun z => by
    rw [sortD_eq]
    exact (sortG_perm _ _).mem_iff
  refine sorted_uniq _ _ (S.sub fun z hz => ?_) (sortD_strict S2 nd2) (sortU_sorted _ S) fun z => ?_
  · rcases List.mem_append.mp hz with e | e
    · exact sub z ((pm z).mp e)
    · exact (sortU_mem _ S).mp e
  · rw [pm z, sortU_mem _ S]
    refine ⟨sub z, fun hz => ?_⟩
    obtain ⟨k, hk, rfl⟩ := List.mem_map.mp hz
    exact List.mem_map.mpr ⟨k, (m k).mpr hk, rfl⟩
end Pz

set_option Elab.async false
set_option linter.all false
set_option maxRecDepth 100000
set_option maxHeartbeats 4000000
/-! S6: sorted(set(x)), as an expression. -/
namespace Pz
open PySem PySem.Spec PySem.W PyProof.Rows L2 PzS

/-- a set of keys, tracked -/
def SetMO (P : Program) (w : World) (a : Addr) (ks : List Key) : HO := .ext fun h => SetM P w h a ks
theorem setMO_new {P : Program} {w : World} {H : Hp} {h : Heap} {a : Addr} {ks : List Key} (R : SetM P w h a ks) : ObjOk P w H h a (SetMO P w a ks) := by
  have ⟨o, _, _, _, ho, _⟩ := R
  exact ⟨R, ⟨o, ho⟩, fun h1 h2 p k => SetM.at p k⟩
def rSetM (K : PySem.W.Frag) (P : Program) (w : World) : List V → Hp → VK → Prop := fun vs H Q => ∃ (l : Addr) (ks : List Key), vs = [V.ref l] ∧ (SqL K H l (ks.map kV) ∨ SqT K H l (ks.map kV)) ∧ ks.length + 1 < scanBound ∧
  ∀ (a : Addr) (k2 : List Key), H a = none → (∀ j, j ∈ k2 ↔ j ∈ ks) → k2.Nodup → k2.length ≤ ks.length → Q (.ref a) (upd H a (SetMO P w a k2))
def rSortM (P : Program) (w : World) : List V → Hp → VK → Prop := fun vs H Q => ∃ (a : Addr) (k2 : List Key), vs = [V.ref a] ∧ H a = some (SetMO P w a k2) ∧ AllOne (k2.map kd) ∧
  ∀ (p : Addr) (k3 : List Key), H p = none → k3.map kd = sortD (k2.map kd) → Q (.ref p) (upd H p (.lst (k3.map kV)))
section
variable {X : Cx}
theorem cr_setM (hc : X.calm = true) : CallR X (.type "set") (rSetM X.K X.prog X.w) := by
  intro pins s σ H xs us Q I r h
  obtain ⟨l, ks, rfl, hl, hz, q⟩ := h
  rw [Vals.ref1 r]
  have fin : ∀ (h' : Heap) (tk : Nat) (k2 : List Key), SetM X.prog X.w h' s.heap.objs.size k2 → (∀ j, j ∈ k2 ↔ j ∈ ks) → k2.length ≤ ks.length → (∀ b o, s.heap.get? b = some o → h'.get? b = some o) → EP X pins σ Q (.ref s.heap.objs.size) { s with heap := h', toks := tk } := by
    intro h' tk k2 S m l2 kp
    have nd : k2.Nodup := by
      obtain ⟨_, _, _, _, _, _, _, _, _, nd, _⟩ := S
      exact nd
    exact ⟨.ref s.heap.objs.size, upd H s.heap.objs.size (SetMO X.prog X.w s.heap.objs.size k2), I.laid (t' := tk) kp (Nat.le_refl _) (setMO_new S), rfl, q _ k2 (I.hok.fresh (Nat.le_refl _)) m nd l2⟩
  rcases hl with hl | hl
  · obtain ⟨its, rv, pl, _⟩ := I.list hl
    exact call_setM_list ks (I.ok.hd hc) pl.isList rv hz fin
  · obtain ⟨its, rv, pl, _⟩ := I.tuple hl
    exact call_setM_tuple ks (I.ok.hd hc) pl rv hz fin
theorem kd_reads {h : Heap} {k : Key} {u : Value} (r : RelV (kV k) u) : ∃ as, Reads h u (pd (kd k)) as := by
  cases k with
  | inl i =>
    obtain ⟨t, rfl⟩ := r
    exact ⟨_, .int _ _⟩
  | inr x =>
    obtain ⟨t, rfl⟩ := r
    exact ⟨_, .str _ _⟩
theorem each_kd : ∀ {ks : List Key} {us : List Value}, Vals (ks.map kV) us → EachIs (fun u d => ∃ k, d = kd k ∧ RelV (kV k) u) us (ks.map kd)
  | [], us, r => by cases r; exact .nil
  | k :: ks, us, r => by
    cases r with
    | cons r1 r2 => exact .cons ⟨k, rfl, r1⟩ (each_kd r2)
theorem kd_each : ∀ {ds : List D} {us : List Value}, EachIs (fun u d => ∃ k, d = kd k ∧ RelV (kV k) u) us ds → ∃ ks : List Key, ks.map kd = ds ∧ Vals (ks.map kV) us
  | _, _, .nil => ⟨[], rfl, .nil⟩
  | _, _, .cons ⟨k, e, r⟩ t => by
    obtain ⟨ks, h1, h2⟩ := kd_each t
    exact ⟨k :: ks, by rw [List.map_cons, h1, e], .cons r h2⟩
theorem cr_sortM (hc : X.calm = true) (hu : X.A.units + 64 < cLine) : CallR X (.builtin "sorted") (rSortM X.prog X.w) := by
  intro pins s σ H vs us Q I r h
  obtain ⟨a, k2, rfl, ha, h1, q⟩ := h
  rw [Vals.ref1 r]
  obtain ⟨o, es, ep, t, ho, hex, hd, el, v, nd, hb, hf, hr, hl⟩ : SetM X.prog X.w s.heap a k2 := (I.hok a _ ha).1
  refine sorted_by (C := fun vs s1 => (∀ b o, s.heap.get? b = some o → s1.heap.get? b = some o) ∧ s.heap.objs.size ≤ s1.heap.objs.size ∧ s1.gens = s.gens ∧ s1.os = s.os ∧ vs.Perm (es.toList.map (·.2)))
    (fun E' => collect_set (A := X.A.in1) (I.ok.hd hc) ⟨o, ho, hex.1, hd⟩ hf hb hr hl fun s1 out k1 hz g1 o1 pm => ⟨k1, hz, g1, o1, pm⟩) ?_
  rintro vs s1 ⟨kp, hz, eg, eo, pm⟩
  obtain ⟨k3, p3, v3⟩ := vals_perm pm v
  have A1 : AllOne (k3.map kd) := by
    rcases h1 with h1 | h1
    · exact .inl fun x hx => h1 x ((p3.map kd).mem_iff.mp hx)
    · exact .inr fun x hx => h1 x ((p3.map kd).mem_iff.mp hx)
  have ok : okSort (k3.map kd) = true := by
    unfold okSort
    rcases A1 with A1 | A1
    · rw [List.all_eq_true.mpr A1]; rfl
    · rw [List.all_eq_true.mpr A1]; simp
  obtain ⟨al, so, dp⟩ := okSort_ok ok
  have lim : k3.length ≤ sizeLine := by
    have e1 := len_es v
    have e2 := p3.length_eq
    have e3 := fits_of_scanBound hb
    rw [Array.length_toList] at e1
    omega
  refine ⟨k3.map kd, _, each_kd v3, (each_kd v3).mono fun u d ⟨k, e, r⟩ => by rw [e]; exact kd_reads r, al, so, by rw [List.length_map]; exact lim, fun d hd => ?_, fun h' p c out k hp hg eo2 => ?_⟩
  · have := dp d hd
    omega
  · obtain ⟨k4, e4, v4⟩ := kd_each eo2
    have hp' : s.heap.objs.size ≤ p := Nat.le_trans hz hp
    have hlen : (k4.map kV).length ≤ sizeLine := by
      have e5 := congrArg List.length e4
      rw [List.length_map, sortD_eq, (sortG_perm _ _).length_eq, List.length_map] at e5
      rw [List.length_map, e5]
      exact lim
    have keep : ∀ b o, s.heap.get? b = some o → h'.get? b = some o := fun b o e => k b o (kp b o e)
    have es : sortD (k3.map kd) = sortD (k2.map kd) := by
      rw [sort_keys A1 (p3.nodup_iff.mpr nd) (fun j => Iff.rfl), sort_keys A1 nd fun j => p3.mem_iff.symm]
    have hn : H p = none := I.hok.fresh hp'
    have J : Inv X pins σ (upd H p (.lst (k4.map kV))) { s with heap := h', gens := s1.gens, drawn := s1.drawn, toks := s1.toks } :=
      I.call (ch := []) (Un.laid keep hp' hn) (I.hok.laid keep hp' ⟨hlen, out, c, v4, hg⟩) (by rw [eg]; exact I.bare) (fun _ z => nomatch z)
    have e : ({ s1 with heap := h' } : Shared) = { s with heap := h', gens := s1.gens, drawn := s1.drawn, toks := s1.toks } := by
      cases s1
      cases s
      cases eo
      rfl
    rw [e]
    exact ⟨.ref p, _, J, rfl, q p k4 hn (e4.trans es)⟩

/-! ### from the interpreter -/
theorem keys_of {K : PySem.W.Frag} {R : Rho} {H : Hp} : ∀ {ds : List D} {vs : List V}, (∀ d ∈ ds, isIntD d = true ∨ isStrD d = true) → Reps K R H ds vs → ∃ ks : List Key, ks.map kd = ds ∧ vs = ks.map kV
  | [], vs, _, r => by cases r; exact ⟨[], rfl, rfl⟩
  | d :: ds, vs, h, r => by
    obtain ⟨v, rest, rfl, r1, r2⟩ := r
    obtain ⟨ks, e1, e2⟩ := keys_of (fun x hx => h x (List.mem_cons_of_mem _ hx)) r2
    have hd := h d List.mem_cons_self
    cases d with
    | int i => cases r1; exact ⟨.inl i :: ks, by rw [List.map_cons, e1]; rfl, by rw [e2]; rfl⟩
    | str x => cases r1; exact ⟨.inr x :: ks, by rw [List.map_cons, e1]; rfl, by rw [e2]; rfl⟩
    | _ => rcases hd with hd | hd <;> cases hd
theorem reps_kd {K : PySem.W.Frag} {R : Rho} {H : Hp} : ∀ (ks : List Key), Reps K R H (ks.map kd) (ks.map kV)
  | [] => rfl
  | k :: ks => ⟨kV k, _, rfl, by cases k <;> rfl, reps_kd ks⟩
theorem pe_sortedSet (hc : X.calm = true) (hu : X.A.units + 64 < cLine) {a : Expr} {ea : Env → M D} {p p2 q pos : Pos} {x1 x2 : Str} (e1 : x1 = ("sorted" : Str)) (e2 : x2 = ("set" : Str)) (hg : Gl X x1) (hm : X.mg x1 = none) (hg2 : Gl X x2) (hm2 : X.mg x2 = none) (ha : PE X a (rdE X.K ea))
    (na : starEach [a] X.env = [(false, eval a X.env)]) : PE X (.Call (.Name x1 p) [.Call (.Name x2 p2) [a] [] q] [] pos) (rdE X.K fun env => do let y ← ea env; ssetD y) := by
  subst e1 e2
  have p1 : PE X (.Call (.Name "set" p2) [a] [] q) (tCB (rSetM X.K X.prog X.w) (tCons (rdE X.K ea) tNil)) := pe_callTy (cr_setM hc) hg2 hm2 (by decide +kernel) (pa_cons ha pa_nil na) (by decide) (by decide) na rfl
  refine PE.weak (pe_callB (cr_sortM hc hu) hg hm (by decide +kernel) (pa_cons p1 pa_nil) (by decide) (by decide)) fun σ H Q h => ?_
  obtain ⟨R, T, env, d, T', st, en, e, po⟩ := h
  refine rd_then (f := fun _ y => ssetD y) st en e fun y T1 R1 H1 v e1 l1 s1 en1 r1 => ?_
  replace e1 : (match isSeq T1 y with
    | some xs => okIf ((xs.all isIntD || xs.all isStrD) && Nat.blt xs.length 4000) (D.lst (sortU xs)) T1
    | none => .bad) = .ok d T' := e1
  cases es : isSeq T1 y with
  | none => rw [es] at e1; cases e1
  | some ds =>
    rw [es] at e1
    obtain ⟨ho, rfl, rfl⟩ := okIf_ok e1
    simp only [Bool.and_eq_true, Bool.or_eq_true, List.all_eq_true] at ho
    obtain ⟨hall, hlen⟩ := ho
    obtain ⟨l, vs, rfl, hq, rs⟩ := isSeq_at s1 es r1
    obtain ⟨ks, rfl, rfl⟩ := keys_of (fun d hd => hall.imp (fun z => z d hd) (fun z => z d hd)) rs
    have hz : ks.length < 4000 := by
      have := blt_lt hlen
      rwa [List.length_map] at this
    refine ⟨l, ks, rfl, hq, by unfold scanBound; omega, fun a k2 hn m nd l2 => ?_⟩
    obtain ⟨l3, s3⟩ := s1.newFz (o := SetMO X.prog X.w a k2) hn
    have A2 : AllOne (k2.map kd) := by
      rcases hall with hall | hall
      · exact .inl fun x hx => by
          obtain ⟨k, hk, rfl⟩ := List.mem_map.mp hx
          exact hall _ (List.mem_map.mpr ⟨k, (m k).mp hk, rfl⟩)
      · exact .inr fun x hx => by
          obtain ⟨k, hk, rfl⟩ := List.mem_map.mp hx
          exact hall _ (List.mem_map.mpr ⟨k, (m k).mp hk, rfl⟩)
    refine ⟨a, k2, rfl, upd_same, A2, fun p k3 hp e3 => ?_⟩
    have e4 : sortD (k2.map kd) = sortU (ks.map kd) := sort_keys hall nd m
    refine Post.newLst s3 (ds := sortU (ks.map kd)) (Post.later (po.later l1) l3) ?_ p hp
    rw [← e4, ← e3]
    exact reps_kd k3
end
end Pz

set_option Elab.async false
set_option linter.all false
set_option maxRecDepth 100000
set_option maxHeartbeats 2000000
/-! I8: the text beside the IR; expressions. -/
namespace Pz
open PySem PySem.Spec L2

def isVis (sc : Scope) (x : Str) : Bool := match sc.names.lookup x with
  | some .local => true
  | some .cell => true
  | some .free => true
  | _ => false
def isGlo (sc : Scope) (x : Str) : Bool := decide (sc.names.lookup x = some .globalImplicit)
def nameOk (x : Str) : Bool := !(x == ("__debug__" : Str)) && !(x == ("__classdict__" : Str)) && !(decide (x = ("__name__" : Str)))
def bltN : Blt → Str
  | .len => "len"
  | .abs => "abs"
  | .int => "int"
  | .all => "all"
  | .any => "any"
  | .sum => "sum"
  | .max1 => "max"
  | .max2 => "max"
  | .min1 => "min"
  | .min2 => "min"
  | .sorted => "sorted"
  | .tuple => "tuple"
  | .list => "list"
  | .str => "str"
  | .sortedSet => "sorted"
  | .lenSet => "len"
def mtN : Mt → Str
  | .append => "append"
  | .count => "count"
  | .get => "get"
  | .join => "join"
  | .split => "split"
  | .pop => "pop"
  | .remove => "remove"
  | .index => "index"
  | .tindex => "index"
  | .extend => "extend"
def tyN : Ty → Str
  | .int => "int"
  | .bool => "bool"
  | .str => "str"
  | .list => "list"
  | .tuple => "tuple"
/-- the built-in names of the fragment -/
def bltNames : List Str := ["range", "enumerate", "zip", "len", "abs", "int", "all", "any", "sum", "max", "min", "sorted", "tuple", "list", "str", "isinstance", "bool", "set"]
def noSlice : Expr → Bool
  | .Slice _ _ _ _ => false
  | _ => true
def noSet : Expr → Bool
  | .Set _ _ _ => false
  | _ => true
def noStar : Expr → Bool
  | .Starred _ _ => false
  | _ => true
def noCall0 : Expr → Bool
  | .Call _ [] [] _ => false
  | _ => true
def chkTy (sc : Scope) : List Ty → Expr → Bool
  | [t], .Name x _ => decide (x = tyN t) && isGlo sc x && nameOk x
  | ts, .Tuple es _ _ => all ts es
  | _, _ => false
where all : List Ty → List Expr → Bool
  | [], [] => true
  | t :: ts, .Name x _ :: es => decide (x = tyN t) && isGlo sc x && nameOk x && all ts es
  | _, _ => false
/-- what makes a list of its own -/
def allocE : E → Bool
  | .lst _ => true
  | .comp _ _ _ _ _ => true
  | .lstS _ _ => true
  | .blt .list [_] => true
  | .bin .mul _ _ => true
  | .bin .add _ _ => true
  | _ => false
def ownN (N : List Str) (own : List Nat) : List (Str × Nat) := own.filterMap fun i => (N[i]?).map fun x => (x, i)
def fnS (scope : Scope) (x : Str) : Bool := scope.names.lookup x == some .cell

/-- the rest of an and, an or -/
def restB (o : BoolOp) (y : Expr) (r : List Expr) (p : Pos) : Expr := match r with
  | [] => y
  | z :: r => .BoolOp o (y :: z :: r) p

def ssetX : Expr → Option (Str × Str × Expr)
  | .Call (.Name x _) [.Call (.Name y _) [z] [] _] [] _ => some (x, y, z)
  | _ => none
theorem ssetX_eq {e : Expr} {x y : Str} {z : Expr} (h : ssetX e = some (x, y, z)) : ∃ p p2 q pos, e = .Call (.Name x p) [.Call (.Name y p2) [z] [] q] [] pos := by
  unfold ssetX at h
  split at h
  · cases h
    exact ⟨_, _, _, _, rfl⟩
  · cases h
def isTop : Own → Bool
  | .top => true
  | _ => false
/-- the def f stands at the top, by this name -/
def topN (P : Prog) (f : Nat) (x : Str) : Bool := match P.fns[f]? with
  | some fn => isTop fn.own && decide (fn.name = x)
  | none => false
def eqP : Bool → CmpOp
  | false => .Eq
  | true => .NotEq
def inP : Bool → CmpOp
  | false => .In
  | true => .NotIn
def oopP : OOp → Operator
  | .add => .Add
  | .rshift => .RShift
def isVarE : E → Bool
  | .var _ => true
  | _ => false
/-- the classes of isinstance -/
def chkTO1 (sc : Scope) : TyO → Expr → Bool
  | .blt t, .Name x _ => decide (x = tyN t) && isGlo sc x && nameOk x
  | .own c, .Name x _ => decide (x = c) && isGlo sc x && nameOk x
  | _, _ => false
def chkTOs (sc : Scope) : List TyO → List Expr → Bool
  | [], [] => true
  | t :: ts, e :: es => chkTO1 sc t e && chkTOs sc ts es
  | _, _ => false
def tupE : Expr → Option (List Expr)
  | .Tuple es _ _ => some es
  | _ => none
def chkTO (sc : Scope) (ts : List TyO) (e : Expr) : Bool := match tupE e with
  | some es => chkTOs sc ts es
  | none => match ts with
    | [t] => chkTO1 sc t e
    | _ => false
/-! parts of a text -/
def attX : Expr → Option (Expr × Str)
  | .Attribute o f _ => some (o, f)
  | _ => none
def methX : Expr → Option (Expr × Str × List Expr × Bool)
  | .Call (.Attribute o m ap) xs [] cp => some (o, m, xs, ap.endLine == cp.line)
  | _ => none
def ncallX : Expr → Option (Str × List Expr)
  | .Call (.Name x _) xs [] _ => some (x, xs)
  | _ => none
def ncallE : Expr → Option (Expr × List Expr)
  | .Call (.Name x p) xs [] _ => some (.Name x p, xs)
  | _ => none
def nameE : Expr → Option Str
  | .Name x _ => some x
  | _ => none
def cmpX : Expr → Option (Expr × CmpOp × Expr)
  | .Compare l [o] [r] _ => some (l, o, r)
  | _ => none
def binX : Expr → Option (Expr × Operator × Expr)
  | .BinOp l o r _ => some (l, o, r)
  | _ => none
def subX : Expr → Option (Expr × Expr)
  | .Subscript a i _ => some (a, i)
  | _ => none
def lstE : Expr → Option (List Expr)
  | .List es _ => some es
  | _ => none
def oneX (nm : Str) (sc : Scope) (e : Expr) : Option Expr := match ncallX e with
  | some (x, [y]) => match decide (x = nm) && isGlo sc x && nameOk x && noStar y with
    | true => some y
    | false => none
  | _ => none
/-- isinstance(y, c) -/
def isiX (sc : Scope) : Expr → Option (Expr × Expr)
  | .Call (.Name x _) [y, c] [] _ => match decide (x = ("isinstance" : Str)) && isGlo sc x && nameOk x && noStar y with
    | true => some (y, c)
    | false => none
  | _ => none
theorem isiX_eq {sc : Scope} {e y c : Expr} (h : isiX sc e = some (y, c)) : ∃ x np p, e = .Call (.Name x np) [y, c] [] p ∧ x = ("isinstance" : Str) ∧ isGlo sc x = true ∧ nameOk x = true ∧ noStar y = true := by
  unfold isiX at h
  split at h
  · split at h
    · rename_i e2
      cases h
      simp only [Bool.and_eq_true, decide_eq_true_eq] at e2
      exact ⟨_, _, _, rfl, e2.1.1.1, e2.1.1.2, e2.1.2, e2.2⟩
    · cases h
  · cases h
/-- e[::-1] -/
def revX : Expr → Option Expr
  | .Subscript e (.Slice none none (some (.UnaryOp .USub (.Constant (.int 1) _ _) _)) _) _ => some e
  | _ => none
theorem revX_eq {e y : Expr} (h : revX e = some y) : ∃ kk p1 p2 p3 pos, e = .Subscript y (.Slice none none (some (.UnaryOp .USub (.Constant (.int 1) kk p1) p2)) p3) pos := by
  unfold revX at h
  split at h
  · cases h
    exact ⟨_, _, _, _, _, rfl⟩
  · cases h
def tyOk1 (P : Prog) (sc : Scope) (t : TyO) (x : Str) : Bool := isGlo sc x && nameOk x && match t with
  | .blt t => decide (x = tyN t)
  | .own c => decide (x = c) && (clsIn c P.cls).isSome
def chkTyO (P : Prog) (sc : Scope) : List TyO → Expr → Bool
  | [t], .Name x _ => tyOk1 P sc t x
  | ts, .Tuple es _ _ => all ts es
  | _, _ => false
where all : List TyO → List Expr → Bool
  | [], [] => true
  | t :: ts, .Name x _ :: es => tyOk1 P sc t x && all ts es
  | _, _ => false
theorem attX_eq {e : Expr} {q : Expr × Str} (h : attX e = some q) : ∃ p, e = .Attribute q.1 q.2 p := by
  cases e <;> first | (cases h; done) | skip
  cases h
  exact ⟨_, rfl⟩
theorem methX_eq {e : Expr} {q : Expr × Str × List Expr × Bool} (h : methX e = some q) : ∃ ap cp, e = .Call (.Attribute q.1 q.2.1 ap) q.2.2.1 [] cp ∧ q.2.2.2 = (ap.endLine == cp.line) := by
  unfold methX at h
  split at h
  · cases h
    exact ⟨_, _, rfl, rfl⟩
  · cases h
theorem ncallX_eq {e : Expr} {q : Str × List Expr} (h : ncallX e = some q) : ∃ np p, e = .Call (.Name q.1 np) q.2 [] p := by
  unfold ncallX at h
  split at h
  · cases h
    exact ⟨_, _, rfl⟩
  · cases h
theorem ncallE_eq {e : Expr} {q : Expr × List Expr} (h : ncallE e = some q) : ∃ x np p, q.1 = .Name x np ∧ e = .Call (.Name x np) q.2 [] p := by
  unfold ncallE at h
  split at h
  · cases h
    exact ⟨_, _, _, rfl, rfl⟩
  · cases h
theorem nameE_eq {e : Expr} {x : Str} (h : nameE e = some x) : ∃ p, e = .Name x p := by
  cases e <;> first | (cases h; done) | skip
  cases h
  exact ⟨_, rfl⟩
theorem cmpX_eq {e : Expr} {q : Expr × CmpOp × Expr} (h : cmpX e = some q) : ∃ p, e = .Compare q.1 [q.2.1] [q.2.2] p := by
  unfold cmpX at h
  split at h
  · cases h
    exact ⟨_, rfl⟩
  · cases h
theorem binX_eq {e : Expr} {q : Expr × Operator × Expr} (h : binX e = some q) : ∃ p, e = .BinOp q.1 q.2.1 q.2.2 p := by
  cases e <;> first | (cases h; done) | skip
  cases h
  exact ⟨_, rfl⟩
theorem subX_eq {e : Expr} {q : Expr × Expr} (h : subX e = some q) : ∃ p, e = .Subscript q.1 q.2 p := by
  cases e <;> first | (cases h; done) | skip
  cases h
  exact ⟨_, rfl⟩
theorem lstE_eq {e : Expr} {xs : List Expr} (h : lstE e = some xs) : ∃ p, e = .List xs p := by
  cases e <;> first | (cases h; done) | skip
  cases h
  exact ⟨_, rfl⟩
theorem tupE_eq {e : Expr} {xs : List Expr} (h : tupE e = some xs) : ∃ k p, e = .Tuple xs k p := by
  cases e <;> first | (cases h; done) | skip
  cases h
  exact ⟨_, _, rfl⟩
theorem oneX_eq {nm : Str} {sc : Scope} {e y : Expr} (h : oneX nm sc e = some y) : ∃ np p, e = .Call (.Name nm np) [y] [] p ∧ isGlo sc nm = true ∧ nameOk nm = true ∧ noStar y = true := by
  unfold oneX at h
  split at h
  · rename_i x z e1
    split at h
    · rename_i hb
      cases h
      simp only [Bool.and_eq_true, decide_eq_true_eq] at hb
      obtain ⟨⟨⟨rfl, h1⟩, h2⟩, h3⟩ := hb
      obtain ⟨np, p, rfl⟩ := ncallX_eq e1
      exact ⟨np, p, rfl, h1, h2, h3⟩
    · cases h
  · cases h
mutual
def chkE (P : Prog) (N : List Str) (sc : Scope) : E → Expr → Bool
  | .non, .Constant .none _ _ => true
  | .bl b, .Constant (.bool c) _ _ => b == c
  | .int i, .Constant (.int j) _ _ => decide (i = j)
  | .str x, .Constant (.str y) _ _ => decide (x = y)
  | .var i, .Name x _ => decide (N[i]? = some x) && isVis sc x && nameOk x
  | .glo j, .Name x _ => decide ((P.cns[j]?).map (·.1) = some x) && isGlo sc x && nameOk x
  | .bin op a b, .BinOp x o y _ => decide (o = bopP op) && chkE P N sc a x && chkE P N sc b y
  | .neg a, .UnaryOp o x _ => decide (o = .USub) && chkE P N sc a x
  | .not a, .UnaryOp o x _ => decide (o = .Not) && chkE P N sc a x
  | .cmp op a b, .Compare x [o] [y] _ => decide (o = copP op) && noSet y && chkE P N sc a x && chkE P N sc b y
  | .cmp2 op op' a b c, .Compare x [o, o'] [y, z] _ => decide (o = copP op) && decide (o' = copP op') && noSet z && chkE P N sc a x && chkE P N sc b y && chkE P N sc c z
  | .and a b, .BoolOp o (x :: y :: r) p => decide (o = .And) && chkE P N sc a x && chkE P N sc b (restB o y r p)
  | .or a b, .BoolOp o (x :: y :: r) p => decide (o = .Or) && chkE P N sc a x && chkE P N sc b (restB o y r p)
  | .orT a b, .BoolOp o [x, y] _ => decide (o = .Or) && chkE P N sc a x && chkE P N sc b y
  | .ite c a b, .IfExp z x y _ => chkE P N sc c z && chkE P N sc a x && chkE P N sc b y
  | .tup es, .Tuple xs _ _ => chkEs P N sc es xs
  | .lst es, .List xs _ => chkEs P N sc es xs
  | .idx a i, .Subscript x y _ => noSlice y && chkE P N sc a x && chkE P N sc i y
  | .slc a lo hi, .Subscript x (.Slice l h none _) _ => chkE P N sc a x && chkO P N sc lo l && chkO P N sc hi h
  | .call f args, .Call (.Name x _) xs [] _ => topN P f x && isGlo sc x && nameOk x && chkEs P N sc args xs
  | .callK f args ks kws, .Call (.Name x _) xs kwl _ => topN P f x && isGlo sc x && nameOk x && decide (kwl.map (·.arg) = ks.map some) && chkEs P N sc args xs && chkEs P N sc kws (kwl.map (·.value))
  | .blt b args, .Call (.Name x _) xs [] _ => decide (x = bltN b) && isGlo sc x && nameOk x && !xs.isEmpty && chkEs P N sc args xs
  | .isi a ts, .Call (.Name x _) [y, c] [] _ => decide (x = ("isinstance" : Str)) && isGlo sc x && nameOk x && !ts.isEmpty && Nat.ble ts.length 1000 && chkTy sc ts c && noStar y && chkE P N sc a y
  | .mth m o args, .Call (.Attribute x nm ap) xs [] cp => decide (nm = mtN m) && (ap.endLine == cp.line) && !xs.isEmpty && Nat.blt xs.length 29 && noCall0 x && chkE P N sc o x && chkEs P N sc args xs
  | .comp own t it c e, .ListComp elt [⟨tg, iter, ifs, a⟩] scope _ => decide (a = 0) && blkC N sc scope (ownN N own) && decide ((ownN N own).map (·.2) = own) && noSet iter && (tgS t).all (own.contains ·) &&
      chkI P N sc it tg iter && chkG N (relS scope sc) (fnS scope) t tg && chkC P N (relS scope sc) c ifs && chkE P N (relS scope sc) e elt
  | .dcomp tk own t it c k v, .DictComp kx vx [⟨tg, iter, ifs, a⟩] scope _ => decide (a = 0) && blkC N sc scope (ownN N own) && decide ((ownN N own).map (·.2) = own) && noSet iter && (tgS t).all (own.contains ·) &&
      chkI P N sc it tg iter && chkG N (relS scope sc) (fnS scope) t tg && chkC P N (relS scope sc) c ifs && chkE P N (relS scope sc) k kx && chkE P N (relS scope sc) v vx
  | .dict0 _, .Dict [] [] _ => true
  | .sset a, e => match ssetX e with
    | some (x, y, z) => decide (x = ("sorted" : Str)) && decide (y = ("set" : Str)) && isGlo sc x && isGlo sc y && noStar z && chkE P N sc a z
    | none => false
  | .mut a, x => allocE a && chkE P N sc a x
  | .frz a, x => chkE P N sc a x
  | .bad, _ => true
  | .att a f, e => match attX e with
    | some q => decide (q.2 = f) && noCall0 q.1 && chkE P N sc a q.1
    | none => false
  | .meth a m args, e => match methX e with
    | some q => decide (q.2.1 = m) && q.2.2.2 && Nat.blt q.2.2.1.length 29 && noCall0 q.1 && chkE P N sc a q.1 && chkEs P N sc args q.2.2.1
    | none => false
  | .make _ c args, e => match ncallX e with
    | some q => decide (q.1 = c) && isGlo sc q.1 && nameOk q.1 && chkEs P N sc args q.2
    | none => false
  | .stat c m args, e => match methX e with
    | some q => match nameE q.1 with
      | some x => q.2.2.2 && Nat.blt q.2.2.1.length 29 && decide (x = c) && isGlo sc x && nameOk x && decide (q.2.1 = m) && chkEs P N sc args q.2.2.1
      | none => false
    | none => false
  | .callO a args, e => match ncallE e with
    | some q => isVarE a && !q.2.isEmpty && chkE P N sc a q.1 && chkEs P N sc args q.2
    | none => false
  | .eqO neg a b, e => match cmpX e with
    | some q => decide (q.2.1 = eqP neg) && noSet q.2.2 && chkE P N sc a q.1 && chkE P N sc b q.2.2
    | none => false
  | .inO neg a b, e => match cmpX e with
    | some q => decide (q.2.1 = inP neg) && noSet q.2.2 && chkE P N sc a q.1 && chkE P N sc b q.2.2
    | none => false
  | .binO op a b, e => match binX e with
    | some q => decide (q.2.1 = oopP op) && chkE P N sc a q.1 && chkE P N sc b q.2.2
    | none => false
  | .idxO a i, e => match subX e with
    | some q => noSlice q.2 && chkE P N sc a q.1 && chkE P N sc i q.2
    | none => false
  | .tupS fs es, e => match tupE e with
    | some xs => chkSt P N sc es fs xs
    | none => false
  | .lstS fs es, e => match lstE e with
    | some xs => chkSt P N sc es fs xs
    | none => false
  | .labS fs es, e => match tupE e with
    | some xs => chkSt P N sc es fs xs
    | none => false
  | .lenO a, e => match oneX "len" sc e with
    | some y => chkE P N sc a y
    | none => false
  | .labT a, e => match oneX "tuple" sc e with
    | some y => chkE P N sc a y
    | none => false
  | .sortedK a, e => match oneX "sorted" sc e with
    | some y => chkE P N sc a y
    | none => false
  | .minT a, e => match oneX "min" sc e with
    | some y => chkE P N sc a y
    | none => false
  | .maxT a, e => match oneX "max" sc e with
    | some y => chkE P N sc a y
    | none => false
  | .isO a ts, e => match isiX sc e with
    | some q => !ts.isEmpty && Nat.ble ts.length 1000 && chkTyO P sc ts q.2 && chkE P N sc a q.1
    | none => false
  | .rev a, e => match revX e with
    | some y => chkE P N sc a y
    | none => false
  | .tupStr a, e => match oneX "tuple" sc e with
    | some y => chkE P N sc a y
    | none => false
  | .itemsL a, e => match oneX "list" sc e with
    | some y => match methX y with
      | some q => decide (q.2.1 = ("items" : Str)) && q.2.2.1.isEmpty && q.2.2.2 && noCall0 q.1 && chkE P N sc a q.1
      | none => false
    | none => false
  | _, _ => false
def chkSt (P : Prog) (N : List Str) (sc : Scope) : List E → List Bool → List Expr → Bool
  | [], [], [] => true
  | e :: es, true :: fs, .Starred y _ :: xs => chkE P N sc e y && chkSt P N sc es fs xs
  | e :: es, false :: fs, x :: xs => noStar x && chkE P N sc e x && chkSt P N sc es fs xs
  | _, _, _ => false
def chkEs (P : Prog) (N : List Str) (sc : Scope) : List E → List Expr → Bool
  | [], [] => true
  | e :: es, x :: xs => noStar x && chkE P N sc e x && chkEs P N sc es xs
  | _, _ => false
def chkO (P : Prog) (N : List Str) (sc : Scope) : Option E → Option Expr → Bool
  | none, none => true
  | some e, some x => chkE P N sc e x
  | _, _ => false
def chkC (P : Prog) (N : List Str) (sc : Scope) : Option E → List Expr → Bool
  | none, [] => true
  | some e, [x] => chkE P N sc e x
  | _, _ => false
def chkI (P : Prog) (N : List Str) (sc : Scope) : I → Expr → Expr → Bool
  | .seq e, _, x => chkE P N sc e x
  | .rng1 a, _, .Call (.Name f _) [x] [] _ => decide (f = ("range" : Str)) && isGlo sc f && noStar x && chkE P N sc a x
  | .rng2 a b, _, .Call (.Name f _) [x, y] [] _ => decide (f = ("range" : Str)) && isGlo sc f && noStar x && noStar y && chkE P N sc a x && chkE P N sc b y
  | .enum a, .Tuple _ _ _, .Call (.Name f _) [x] [] _ => decide (f = ("enumerate" : Str)) && isGlo sc f && noStar x && chkE P N sc a x
  | .zip a b, .Tuple _ _ _, .Call (.Name f _) [x, y] [] _ => decide (f = ("zip" : Str)) && isGlo sc f && noStar x && noStar y && chkE P N sc a x && chkE P N sc b y
  | .enumZip a b, .Tuple _ _ _, .Call (.Name f _) [.Call (.Name g _) [x, y] [] _] [] _ => decide (f = ("enumerate" : Str)) && isGlo sc f && decide (g = ("zip" : Str)) && isGlo sc g && noStar x && noStar y && chkE P N sc a x && chkE P N sc b y
  | _, _, _ => false
end
end Pz

set_option Elab.async false
set_option linter.all false
set_option maxRecDepth 100000
set_option maxHeartbeats 4000000
/-! C0: what a call leaves. -/
namespace Pz
open PySem PySem.Spec L2

theorem sameKV_eq : ∀ (a b : List (D × D)), sameKV a b = true → a = b
  | [], [], _ => rfl
  | [], _ :: _, h => by cases h
  | (_, _) :: _, [], h => by cases h
  | (a, b) :: r, (c, d) :: q, h => by
    simp only [sameKV, Bool.and_eq_true] at h
    rw [sameD_eq _ _ h.1.1, sameD_eq _ _ h.1.2, sameKV_eq r q h.2]
theorem sameC_eq (a b : Cell) (h : sameC a b = true) : a = b := by
  cases a <;> cases b <;> first | (cases h; done) | skip
  · rfl
  · rw [sameL_eq _ _ h]
  · simp only [sameC, Bool.and_eq_true, beq_iff_eq] at h
    rw [h.1, sameKV_eq _ _ h.2]
  · simp only [sameC, Bool.and_eq_true] at h
    rw [beqS_eq h.1.1, sameN_eq _ _ h.1.2, sameL_eq _ _ h.2]
theorem sameS_eq : ∀ (a b : Store), sameS a b = true → a = b
  | [], [], _ => rfl
  | [], _ :: _, h => by cases h
  | _ :: _, [], h => by cases h
  | x :: xs, y :: ys, h => by
    simp only [sameS, Bool.and_eq_true] at h
    rw [sameC_eq _ _ h.1, sameS_eq _ _ h.2]
section
variable {K : PySem.W.Frag} {R R1 : Rho} {H H1 : Hp}
mutual
theorem Rep.clos : ∀ (d : D) (v : V), Rep K R H d v → closD R.cell.length d = true
  | .non, _, _ => rfl
  | .bl _, _, _ => rfl
  | .int _, _, _ => rfl
  | .str _, _, _ => rfl
  | .tup ds, v, h => by
    obtain ⟨a, vs, e, t, r⟩ := h
    exact Reps.clos ds vs r
  | .lst ds, v, h => by
    obtain ⟨a, vs, e, t, r⟩ := h
    exact Reps.clos ds vs r
  | .ext t ds, v, h => by
    obtain ⟨a, vs, e, t', r⟩ := h
    exact Reps.clos ds vs r
  | .ref n, v, h => by
    obtain ⟨a, e, c⟩ := h
    simp only [closD, Nat.blt_eq]
    exact (List.getElem?_eq_some_iff.mp c).1
  | .obj c ns ds, v, h => by
    obtain ⟨a, vs, e, t, r⟩ := h
    exact Reps.clos ds vs r
  | .lab ds, v, h => by
    obtain ⟨a, vs, e, t, r⟩ := h
    exact Reps.clos ds vs r
theorem Reps.clos : ∀ (ds : List D) (vs : List V), Reps K R H ds vs → closL R.cell.length ds = true
  | [], _, _ => rfl
  | d :: ds, vs, h => by
    obtain ⟨v, r, e, h1, h2⟩ := h
    simp only [closL, Bool.and_eq_true]
    exact ⟨Rep.clos d v h1, Reps.clos ds r h2⟩
end
mutual
theorem Rep.cut {cs more : List Addr} (hc : R.cell = cs ++ more) : ∀ (d : D) (v : V), closD cs.length d = true → Rep K R H d v → Rep K { R with cell := cs } H d v
  | .non, _, _, h => h
  | .bl _, _, _, h => h
  | .int _, _, _, h => h
  | .str _, _, _, h => h
  | .tup ds, v, q, h => by
    obtain ⟨a, vs, e, t, r⟩ := h
    exact ⟨a, vs, e, t, Reps.cut hc ds vs q r⟩
  | .lst ds, v, q, h => by
    obtain ⟨a, vs, e, t, r⟩ := h
    exact ⟨a, vs, e, t, Reps.cut hc ds vs q r⟩
  | .ext t ds, v, q, h => by
    obtain ⟨a, vs, e, t', r⟩ := h
    exact ⟨a, vs, e, by cases t <;> exact t', Reps.cut hc ds vs q r⟩
  | .ref n, v, q, h => by
    obtain ⟨a, e, c⟩ := h
    simp only [closD, Nat.blt_eq] at q
    refine ⟨a, e, ?_⟩
    rw [hc, List.getElem?_append_left q] at c
    exact c
  | .obj c ns ds, v, q, h => by
    obtain ⟨a, vs, e, t, r⟩ := h
    exact ⟨a, vs, e, t, Reps.cut hc ds vs q r⟩
  | .lab ds, v, q, h => by
    obtain ⟨a, vs, e, t, r⟩ := h
    exact ⟨a, vs, e, t, Reps.cut hc ds vs q r⟩
theorem Reps.cut {cs more : List Addr} (hc : R.cell = cs ++ more) : ∀ (ds : List D) (vs : List V), closL cs.length ds = true → Reps K R H ds vs → Reps K { R with cell := cs } H ds vs
  | [], _, _, h => h
  | d :: ds, vs, q, h => by
    obtain ⟨v, r, e, h1, h2⟩ := h
    simp only [closL, Bool.and_eq_true] at q
    exact ⟨v, r, e, Rep.cut hc d v q.1 h1, Reps.cut hc ds r q.2 h2⟩
end
theorem PairsK.cut {cs more : List Addr} (hc : R.cell = cs ++ more) {R0 : Rho} {H0 : Hp} (h0 : R0.cell = cs) : ∀ {kvs : List (D × D)} {ks ks0 : List (Key × V)}, PairsK K R0 H0 kvs ks0 → PairsK K R H kvs ks → PairsK K { R with cell := cs } H kvs ks
  | [], _, _, _, h => h
  | (k, d) :: r, _, _, q, h => by
    obtain ⟨k', v, r', e, e1, h1, h2⟩ := h
    obtain ⟨k0, v0, r0, _, _, q1, q2⟩ := q
    have := Rep.clos d v0 q1
    rw [h0] at this
    exact ⟨k', v, r', e, e1, Rep.cut hc d v this h1, PairsK.cut hc h0 q2 h2⟩
theorem PairsT.cut {cs more : List Addr} (hc : R.cell = cs ++ more) {R0 : Rho} {H0 : Hp} (h0 : R0.cell = cs) : ∀ {kvs : List (D × D)} {ks ks0 : List (List Key × V)}, PairsT K R0 H0 kvs ks0 → PairsT K R H kvs ks → PairsT K { R with cell := cs } H kvs ks
  | [], _, _, _, h => h
  | (k, d) :: r, _, _, q, h => by
    obtain ⟨k', v, r', e, e1, h1, h2⟩ := h
    obtain ⟨k0, v0, r0, _, _, q1, q2⟩ := q
    have := Rep.clos d v0 q1
    rw [h0] at this
    exact ⟨k', v, r', e, e1, Rep.cut hc d v this h1, PairsT.cut hc h0 q2 h2⟩
theorem CellOk.cut {cs more : List Addr} (hc : R.cell = cs ++ more) {R0 : Rho} {H0 : Hp} (h0 : R0.cell = cs) {a a0 : Addr} {c : Cell} (q : CellOk K R0 H0 a0 c) (h : CellOk K R H a c) : CellOk K { R with cell := cs } H a c := by
  cases c with
  | dead => trivial
  | lst ds =>
    obtain ⟨vs, e, r⟩ := h
    obtain ⟨vs0, _, r0⟩ := q
    have := Reps.clos ds vs0 r0
    rw [h0] at this
    exact ⟨vs, e, Reps.cut hc ds vs this r⟩
  | obj c ns ds =>
    obtain ⟨vs, e, r⟩ := h
    obtain ⟨vs0, _, r0⟩ := q
    have := Reps.clos ds vs0 r0
    rw [h0] at this
    exact ⟨vs, e, Reps.cut hc ds vs this r⟩
  | dic t kvs =>
    cases t
    · obtain ⟨ks, e, r⟩ := h
      obtain ⟨ks0, _, r0⟩ := q
      exact ⟨ks, e, PairsK.cut hc h0 r0 r⟩
    · obtain ⟨ks, e, r⟩ := h
      obtain ⟨ks0, _, r0⟩ := q
      exact ⟨ks, e, PairsT.cut hc h0 r0 r⟩
theorem gc_ok {T T1 : Store} {b : Bool} {d : D} {v : V} (st : StOk K R T H) (l : Le R H R1 H1) (s1 : StOk K R1 T1 H1) (r : Rep K R1 H1 d v) : ∃ R3, Le R H R3 H1 ∧ StOk K R3 (gcS b T T1 d) H1 ∧ Rep K R3 H1 d v := by
  unfold gcS
  cases hb : b && closD T.length d && sameS (T1.take T.length) T with
  | false => exact ⟨R1, l, s1, r⟩
  | true =>
    simp only [Bool.and_eq_true] at hb
    obtain ⟨⟨_, h1⟩, h2⟩ := hb
    have e := sameS_eq _ _ h2
    obtain ⟨more, hm⟩ := l.cell
    dsimp only
    rw [e]
    have at1 : ∀ (n : Nat) (c : Cell), T[n]? = some c → T1[n]? = some c := fun n c h => by
      have hn : n < T.length := (List.getElem?_eq_some_iff.mp h).1
      rw [← e, List.getElem?_take_of_lt hn] at h
      exact h
    refine ⟨{ R1 with cell := R.cell }, ⟨⟨[], by simp⟩, l.fz, l.kp, l.kh⟩, ⟨st.len, fun n a c ha hc al => ?_, fun n m a c c' hn hm' hc hc' al al' => ?_, s1.fz, s1.kp⟩, Rep.cut hm d v (by rw [st.len]; exact h1) r⟩
    · obtain ⟨q1, q2⟩ := s1.cell n a c (l.get ha) (at1 n c hc) al
      exact ⟨CellOk.cut hm rfl (st.cell n a c ha hc al).1 q1, q2⟩
    · exact s1.inj n m a c c' (l.get hn) (l.get hm') (at1 n c hc) (at1 m c' hc') al al'
end
end Pz

set_option Elab.async false
set_option linter.all false
set_option maxRecDepth 100000
set_option maxHeartbeats 2000000
/-! I9: expressions do what the interpreter says. -/
namespace Pz
open PySem PySem.Spec L2

/-- the def stands at a -/
def FnAt (K : PySem.W.Frag) (mg : Str → Option Value) (fn : Fn) (a : Addr) : Prop := match fn.own with
  | .top => mg fn.name = some (.ref a)
  | .meth c => Meth K (He.ga K c) fn.name a ∧ PySem.W.fnIn K a = true
  | .prop c => ∃ p, PropOf K (He.ga K c) fn.name p a
  | .stat c => ∃ p, PySem.W.findCls K (.ref (He.ga K c)) (.type "type") fn.name = some (.get (.builtin "staticmethod.__get__") (.ref p) .none (.ref (He.ga K c))) ∧ ∃ rest, PySem.W.recIn K p "staticmethod" = some (.ref a :: rest)
/-- the parameters are bound, the last defaults fill up -/
def BindsAll (K : PySem.W.Frag) (fd : FuncData) (ps : List Str) (dus : List Value) : Prop :=
  ∀ (s : Shared) (us : List Value), K.In s.heap → (fillG ps.length dus us).length = ps.length → BindsTo s fd ⟨us, []⟩ (ps.zip (fillG ps.length dus us))
theorem BindsAll.drop {K : PySem.W.Frag} {fd : FuncData} {ps : List Str} {dus : List Value} (b : BindsAll K fd ps dus) (j : Nat) : Binds K fd ps (dus.drop j) := by
  intro s us kin hl
  have e : us ++ dus.drop j = fillG ps.length dus us := by
    unfold fillG
    rw [List.length_append, List.length_drop] at hl
    by_cases hj : j ≤ dus.length
    · rw [show us.length + dus.length - ps.length = j by omega]
    · rw [List.drop_of_length_le (by omega), List.drop_of_length_le (by omega)]
  rw [e] at hl ⊢
  exact b s us kin hl
theorem BindsAll.full {K : PySem.W.Frag} {fd : FuncData} {ps : List Str} {dus : List Value} (b : BindsAll K fd ps dus) : Binds K fd ps [] := by
  have := b.drop dus.length
  rwa [List.drop_length] at this
/-- an own class -/
structure ClOk (P : Prog) (K : PySem.W.Frag) (mg : Str → Option Value) (cd : ClsD) : Prop where
  glo : mg cd.name = some (.ref (He.ga K cd.name))
  cls : Cls K (He.ga K cd.name)
  fld : ∀ f ∈ cd.flds, NoAttr K (He.ga K cd.name) f
  mth : ∀ q ∈ cd.mths, ∃ fn, P.fns[q.2]? = some fn ∧ fn.name = q.1 ∧ fn.own = .meth cd.name
  prp : ∀ q ∈ cd.prps, ∃ fn, P.fns[q.2]? = some fn ∧ fn.name = q.1 ∧ fn.own = .prop cd.name
  sta : ∀ q ∈ cd.stas, ∃ fn, P.fns[q.2]? = some fn ∧ fn.name = q.1 ∧ fn.own = .stat cd.name
  mkr : PySem.W.makesIn K (He.ga K cd.name) = true
  kp : PySem.W.keepIn K (.ref (He.ga K cd.name)) = true
  rd : PySem.W.readsIn K (He.ga K cd.name) (.type "type") = true
  gat : PySem.W.specialIn K (.ref (He.ga K cd.name)) "__getattribute__" = some (some (.builtin "type.__getattribute__"))
  ne : PySem.W.findIn K (.ref (He.ga K cd.name)) "__ne__" = some (some (.builtin "object.__ne__"))
  sf : PySem.W.selfFirst K (He.ga K cd.name) = true
  nsq : PySem.W.noSeq K (He.ga K cd.name) = true
  cla : PySem.W.findIn K (.ref (He.ga K cd.name)) "__class__" = some (some (.builtin "object.__class__"))
  clg : PySem.W.specialIn K (.builtin "object.__class__") "__get__" = some (some (.builtin "getset_descriptor.__get__"))
  clt : PySem.W.takesIn K (.builtin "object.__class__") = some true
  mro : PySem.W.mroIn K (He.ga K cd.name) (.type "object") = some true
  kit : ∀ t : Ty, PySem.W.kitOne K (.ref (He.ga K cd.name)) (.type (tyS t)) = some false
  tik : ∀ n ∈ ["NoneType", "bool", "int", "str", "tuple", "list"], PySem.W.kitOne K (.type n) (.ref (He.ga K cd.name)) = some false ∧ PySem.W.subIn K (.type n) (.ref (He.ga K cd.name)) = some false
  own : ∀ cd2 ∈ P.cls, PySem.W.kitOne K (.ref (He.ga K cd2.name)) (.ref (He.ga K cd.name)) = some (decide (cd2.name = cd.name)) ∧ PySem.W.notFirst K (He.ga K cd.name) (.ref (He.ga K cd2.name)) = true
/-- what the module's names stand for -/
structure GOk (P : Prog) (K : PySem.W.Frag) (mg : Str → Option Value) : Prop where
  free : ∀ x ∈ bltNames, mg x = none
  cns : ∀ (j : Nat) x d, P.cns[j]? = some (x, d) → ∃ v u, mg x = some u ∧ RelV v u ∧ ∀ R H, Rep K R H d v
  cls : ∀ cd ∈ P.cls, ClOk P K mg cd
/-- each def keeps what the interpreter says of it -/
structure FOk (P : Prog) (call : Nat → List D → M D) (k : Nat) (p : Program) (w : World) (K : PySem.W.Frag) (mg : Str → Option Value) (base : Heap) : Prop where
  fn : ∀ (f : Nat) fn, P.fns[f]? = some fn → ∃ a fd dvs dus, FnAt K mg fn a ∧ PySem.W.keepIn K (.ref a) = true ∧ FnOk p w K mg base CX0 k a fd fn.ps (spF K fn.ps.length (call f)) ∧ (∀ R H, Reps K R H fn.dfl dvs) ∧ Vals dvs dus ∧ BindsAll K fd fn.ps dus ∧
    (∀ ks ∈ fn.kws, ∀ m, ∀ (s : Shared) (us ws : List Value), us.length = m → ws.length = ks.length → bindOk fn.ps m ks = true → BindsTo s fd ⟨us, ks.zip ws⟩ (fn.ps.zip (kwG fn.ps ks us ws)))
  len : ∀ (f : Nat) fn, P.fns[f]? = some fn → ∀ xs T d T', call f xs T = .ok d T' → xs.length = fn.ps.length
structure CxOk (P : Prog) (call : Nat → List D → M D) (k : Nat) (N : List Str) (sc : Scope) (X : Cx) : Prop where
  n : X.N = N
  nd : N.Nodup
  sc : X.env.scope = sc
  calm : X.calm = true
  room : Room (k + 1) X.A
  g : GOk P X.K X.mg
  f : FOk P call k X.prog X.w X.K X.mg X.base

section
variable {P : Prog} {call : Nat → List D → M D} {k : Nat} {N : List Str} {sc : Scope} {X : Cx}
theorem CxOk.gl (C : CxOk P call k N sc X) {x : Str} (h : isGlo sc x = true) : Gl X x := by
  unfold Gl Env.kindOf
  rw [C.sc]
  exact of_decide_eq_true h
theorem topN_ok {f : Nat} {x : Str} (h : topN P f x = true) : ∃ fn, P.fns[f]? = some fn ∧ fn.own = .top ∧ fn.name = x := by
  unfold topN at h
  split at h
  · rename_i fn e
    simp only [Bool.and_eq_true, decide_eq_true_eq] at h
    refine ⟨fn, e, ?_, h.2⟩
    cases ho : fn.own <;> first | rfl | (rw [ho] at h; cases h.1)
  · cases h
theorem FOk.top {p : Program} {w : World} {K : PySem.W.Frag} {mg : Str → Option Value} {base : Heap} (F : FOk P call k p w K mg base) {f : Nat} {x : Str} (h : topN P f x = true) : ∃ fn a fd, P.fns[f]? = some fn ∧ fn.name = x ∧ mg x = some (.ref a) ∧ PySem.W.keepIn K (.ref a) = true ∧
    FnOk p w K mg base CX0 k a fd fn.ps (spF K fn.ps.length (call f)) ∧ Binds K fd fn.ps [] ∧
    (∀ ks ∈ fn.kws, ∀ m, ∀ (s : Shared) (us ws : List Value), us.length = m → ws.length = ks.length → bindOk fn.ps m ks = true → BindsTo s fd ⟨us, ks.zip ws⟩ (fn.ps.zip (kwG fn.ps ks us ws))) := by
  obtain ⟨fn, e, ho, hn⟩ := topN_ok h
  obtain ⟨a, fd, dvs, dus, h1, h2, h3, h4, h5, h6, h7⟩ := F.fn f fn e
  unfold FnAt at h1
  rw [ho] at h1
  subst hn
  exact ⟨fn, a, fd, e, rfl, h1, h2, h3, h6.full, h7⟩
theorem CxOk.hr (C : CxOk P call k N sc X) : Room k X.A := C.room.mono (Nat.le_succ k)
theorem CxOk.hu (C : CxOk P call k N sc X) : X.A.units + 64 < cLine := C.room.units
theorem vis_of {sc : Scope} {x : Str} (h : isVis sc x = true) : Vis sc x := by
  unfold isVis at h
  split at h
  · exact .inl (by assumption)
  · exact .inr (.inl (by assumption))
  · exact .inr (.inr (by assumption))
  · cases h
theorem nameOk_d {x : Str} (h : nameOk x = true) : (x == ("__debug__" : Str)) = false ∧ (x == ("__classdict__" : Str)) = false ∧ x ≠ "__name__" := by
  unfold nameOk at h
  simp only [Bool.and_eq_true, Bool.not_eq_true', decide_eq_false_iff_not] at h
  exact ⟨h.1.1, h.1.2, h.2⟩
/-- in the block of a comprehension -/
theorem CxOk.blk (C : CxOk P call k N sc X) (s : Shared) (H : Hp) (scope : Scope) (c : Addr) (cl : List (Str × Addr)) (fp : List Addr) : CxOk P call k N (relS scope sc) (X.blk s H scope (compEnvC scope cl c X.env) fp) :=
  ⟨C.n, C.nd, by rw [← C.sc]; rfl, C.calm, C.room, C.g, C.f⟩
theorem star_no {x : Expr} (h : noStar x = true) (xs : List Expr) (env : PySem.Env) : starEach (x :: xs) env = (false, eval x env) :: starEach xs env := by
  cases x <;> first | rfl | cases h
theorem chkEs_star : ∀ {es : List E} {xs : List Expr}, chkEs P N sc es xs = true → ∀ (pos : Pos) (env : PySem.Env), (backTo pos (starEach xs env)).any (·.1) = false ∧ (backTo pos (starEach xs env)).all (fun x => !x.1) = true
  | [], [], _, _, _ => ⟨rfl, rfl⟩
  | [], _ :: _, h, _, _ => by cases h
  | _ :: _, [], h, _, _ => by cases h
  | e :: es, x :: xs, h, pos, env => by
    simp only [chkEs, Bool.and_eq_true] at h
    rw [star_no h.1.1 xs env]
    obtain ⟨h1, h2⟩ := chkEs_star h.2 pos env
    exact ⟨h1, h2⟩
theorem plain_ix {y : Expr} (h : noSlice y = true) : PlainIx y := by
  cases y <;> first | (exact fun _ _ => rfl) | cases h
theorem no_marks {o : CmpOp} {y : Expr} (h : noSet y = true) : behindInMarks o y = false := by
  cases y <;> first | rfl | cases h
theorem no_marks2 {o o' : CmpOp} {y z : Expr} (h : noSet z = true) : lastMarks [o, o'] [y, z] = false := by
  cases z <;> first | rfl | cases h
theorem no_fold {x : Expr} (h : noSet x = true) (env : PySem.Env) (v : Value) : foldedSetIterable x env v = pure v := by
  cases x <;> first | rfl | cases h
theorem att_base {x : Expr} {nm : Str} (h : noCall0 x = true) (env : PySem.Env) (w : Sem Value) : attributeBase x nm env w = w := by
  cases x <;> first | rfl | skip
  rename_i f args kws p
  cases f <;> first | rfl | skip
  cases args <;> first | rfl | skip
  cases kws <;> first | rfl | cases h
theorem ty_pe (C : CxOk P call k N sc X) {t : Ty} {x : Str} {p : Pos} (h1 : x = tyN t) (h2 : isGlo sc x = true) (h3 : nameOk x = true) : PE X (.Name x p) (tC (.ty (tyS t))) := by
  obtain ⟨a, b, c⟩ := nameOk_d h3
  have hm : X.mg x = none := C.g.free x (by rw [h1]; cases t <;> decide)
  exact pe_bltn (u := .type (tyS t)) (C.gl h2) hm (by rw [h1]; cases t <;> decide +kernel) rfl c a
theorem ty_pa (C : CxOk P call k N sc X) : ∀ {ts : List Ty} {es : List Expr}, chkTy.all sc ts es = true → PA X es (fun _ H Q => Q (ts.map fun t => V.ty (tyS t)) H)
  | [], [], _ => pa_nil
  | [], _ :: _, h => by cases h
  | _ :: _, [], h => by cases h
  | t :: ts, e :: es, h => by
    cases e <;> first | (cases h; done) | skip
    simp only [chkTy.all, Bool.and_eq_true, decide_eq_true_eq] at h
    exact PA.weak (pa_cons (ty_pe C h.1.1.1 h.1.1.2 h.1.2) (ty_pa C h.2)) fun σ H Q q => q
/-- built-in functions and types -/
theorem blt_pe (C : CxOk P call k N sc X) {b : Blt} {x : Str} {p pos : Pos} {e : Expr} {es : List Expr} {t : TA} (h1 : x = bltN b) (h2 : isGlo sc x = true) (h3 : nameOk x = true) (hb : b ≠ .sortedSet ∧ b ≠ .lenSet) (ha : PA X (e :: es) t)
    (he : starEach (e :: es) X.env = (false, eval e X.env) :: starEach es X.env) (hpl : (backTo pos (starEach es X.env)).any (·.1) = false) : PE X (.Call (.Name x p) (e :: es) [] pos) (tCB (rdCl X.K (bltD b)) t) := by
  obtain ⟨d1, d2, d3⟩ := nameOk_d h3
  have hm : X.mg x = none := C.g.free x (by rw [h1]; cases b <;> decide)
  have hg := C.gl h2
  subst h1
  cases b with
  | len => exact pe_callB cl_len hg hm (by decide +kernel) ha d3 d1 he hpl
  | abs => exact pe_callB cl_abs hg hm (by decide +kernel) ha d3 d1 he hpl
  | int => exact pe_callTy cl_int hg hm (by decide +kernel) ha d3 d1 he hpl
  | all => exact pe_callB (cl_all C.calm) hg hm (by decide +kernel) ha d3 d1 he hpl
  | any => exact pe_callB (cl_any C.calm) hg hm (by decide +kernel) ha d3 d1 he hpl
  | sum => exact pe_callB (cl_sum C.calm) hg hm (by decide +kernel) ha d3 d1 he hpl
  | max1 => exact pe_callB (cl_max1 C.calm) hg hm (by decide +kernel) ha d3 d1 he hpl
  | max2 => exact pe_callB (cl_max2 C.calm) hg hm (by decide +kernel) ha d3 d1 he hpl
  | min1 => exact pe_callB (cl_min1 C.calm) hg hm (by decide +kernel) ha d3 d1 he hpl
  | min2 => exact pe_callB (cl_min2 C.calm) hg hm (by decide +kernel) ha d3 d1 he hpl
  | sorted => exact pe_callB (cl_sorted C.hu) hg hm (by decide +kernel) ha d3 d1 he hpl
  | tuple => exact pe_callTy cl_tuple hg hm (by decide +kernel) ha d3 d1 he hpl
  | list => exact pe_callTy cl_list hg hm (by decide +kernel) ha d3 d1 he hpl
  | str => exact pe_callTy cl_str hg hm (by decide +kernel) ha d3 d1 he hpl
  | sortedSet => exact absurd rfl hb.1
  | lenSet => exact absurd rfl hb.2
/-- the methods -/
theorem mth_pe {m : Mt} {o : Expr} {nm : Str} {ap cp : Pos} {e : Expr} {es : List Expr} {to : TE} {t : TA} (h1 : nm = mtN m) (hm : m = .append ∨ m = .join ∨ m = .split ∨ m = .count ∨ m = .pop ∨ m = .extend) (ho : PE X o to) (ha : PA X (e :: es) t) (hb : noCall0 o = true)
    (hl : (ap.endLine == cp.line) = true) (hn : (e :: es).length < 29) (he : starEach (e :: es) X.env = (false, eval e X.env) :: starEach es X.env) (hpl : (backTo cp (starEach es X.env)).any (·.1) = false) (hal : (backTo cp (starEach (e :: es) X.env)).all (fun x => !x.1) = true) :
    PE X (.Call (.Attribute o nm ap) (e :: es) [] cp) (tBM X.K (mtT m) (rdMt X.K (mthD m)) to t) := by
  have few : ((backTo cp (starEach (e :: es) X.env)).all (fun x => !x.1) && (backToKw cp (keywordEach [] X.env)).all (fun x => x.1.isSome)
      && decide ((e :: es).length + ([] : List Keyword).length + (if ([] : List Keyword).isEmpty then 0 else 1) < 30)) = true := by
    rw [hal]
    have : (e :: es).length + ([] : List Keyword).length + (if ([] : List Keyword).isEmpty then 0 else 1) < 30 := by
      simp only [List.length_cons, List.length_nil, List.isEmpty_nil] at hn ⊢
      simp
      omega
    rw [decide_eq_true this]
    rfl
  subst h1
  rcases hm with rfl | rfl | rfl | rfl | rfl | rfl
  · exact pe_bm PySem.F.plainAttrs_list PySem.F.slot_list_append PySem.F.type_list_append mt_append_ok ho ha (att_base hb _ _) few hl he hpl
  · exact pe_bm PySem.F.plainAttrs_str PySem.F.slot_str_join PySem.F.type_str_join mt_join_ok ho ha (att_base hb _ _) few hl he hpl
  · exact pe_bm PySem.F.plainAttrs_str PySem.F.slot_str_split PySem.F.type_str_split mt_split_ok ho ha (att_base hb _ _) few hl he hpl
  · exact pe_bm PySem.F.plainAttrs_list PySem.F.slot_list_count PySem.F.type_list_count mt_count_ok ho ha (att_base hb _ _) few hl he hpl
  · exact pe_bm PySem.F.plainAttrs_list PySem.F.slot_list_pop PySem.F.type_list_pop mt_pop_ok ho ha (att_base hb _ _) few hl he hpl
  · exact pe_bm PySem.F.plainAttrs_list PySem.F.slot_list_extend PySem.F.type_list_extend mt_extend_ok ho ha (att_base hb _ _) few hl he hpl
end
end Pz

set_option Elab.async false
set_option linter.all false
set_option maxRecDepth 100000
set_option maxHeartbeats 4000000
/-! I10: the theorem of expressions. -/
namespace Pz
open PySem PySem.Spec L2

theorem bind_mk {α β : Type} {x : M α} {f : α → M β} {T T1 T' : Store} {a : α} {b : β} (h1 : x T = .ok a T1) (h2 : f a T1 = .ok b T') : (x >>= f) T = .ok b T' := by
  show M.bind x f T = _
  unfold M.bind
  rw [h1]
  exact h2
section
variable {P : Prog} {call : Nat → List D → M D} {k : Nat}
/-- what is shown of an expression -/
structure Snd (P : Prog) (call : Nat → List D → M D) (X : Cx) (e : E) (x : Expr) : Prop where
  pe : PE X x (rdE X.K (evalE P call e))
  pt : PT X x (rdT X.K (evalT P call e))
  pw : ∀ op vs pos, x = .BoolOp op vs pos → PW X x (rdT X.K (evalT P call e))
  pf : allocE e = true → PE X x (rdF X.K (evalE P call e))
/-- its truth is asked of its value -/
def plainT : Expr → Bool
  | .UnaryOp .Not _ _ => false
  | .BoolOp _ _ _ => false
  | .IfExp _ _ _ _ => false
  | .Compare _ _ _ _ => false
  | _ => true
theorem plainT_is {x : Expr} (h : plainT x = true) (env : PySem.Env) : ∀ whole, isTrue x env whole = (do let v ← whole; standAt x.pos; holding [v] (truthy v)) := by
  cases x <;> first | (intro _; rfl) | (cases h; done) | skip
  rename_i o y p
  cases o <;> first | (intro _; rfl) | (cases h)
variable {X : Cx} {e : E} {x : Expr}
theorem Snd.plain (h : PE X x (rdE X.K (evalE P call e))) (hp : plainT x = true) (ha : allocE e = false) : Snd P call X e x :=
  ⟨h, PT.weak (pt_val h (plainT_is hp X.env)) fun σ H Q q => rd_test q, fun op vs pos z => (by subst z; cases hp), fun z => (by rw [ha] at z; cases z)⟩
theorem Snd.fresh (h : PE X x (rdF X.K (evalE P call e))) (hp : plainT x = true) (hf : ∀ env T d T', evalE P call e env T = .ok d T' → ∃ ds, d = .lst ds) : Snd P call X e x := by
  have h2 : PE X x (rdE X.K (evalE P call e)) := PE.weak h fun σ H Q q => rd_of_fresh hf q
  exact ⟨h2, PT.weak (pt_val h2 (plainT_is hp X.env)) fun σ H Q q => rd_test q, fun op vs pos z => (by subst z; cases hp), fun _ => h⟩
theorem rdT_and {ea eb : Env → M D} {K : PySem.W.Frag} {σ : L2.St} {H : Hp} {Q : Bool → Hp → Prop} (h : rdT K (fun env => do let x ← (do let x ← ea env; let k ← boolD x; match k with | true => eb env | false => pure (.bl false)); boolD x) σ H Q) :
    tAnd (rdT K fun env => do let x ← ea env; boolD x) (rdT K fun env => do let x ← eb env; boolD x) σ H Q := by
  obtain ⟨R, T, env, b, T', st, en, e, po⟩ := h
  obtain ⟨x, T1, e1, e2⟩ := bind_ok e
  obtain ⟨y, T2, e3, e4⟩ := bind_ok e1
  obtain ⟨k, T3, e5, e6⟩ := bind_ok e4
  refine ⟨R, T, env, k, T3, st, en, ?_, fun R1 H1 l1 s1 => ?_⟩
  · exact bind_mk e3 e5
  cases k with
  | true =>
    refine iteT ?_
    refine ⟨R1, T3, env, b, T', s1, en.mono l1, ?_, fun R2 H2 l2 s2 => po R2 H2 (l1.trans l2) s2⟩
    exact bind_mk (x := eb env) e6 e2
  | false =>
    refine iteF ?_
    obtain ⟨rfl, rfl⟩ := pure_ok e6
    obtain ⟨q, rfl⟩ := boolD_ok e2
    cases q
    exact po R1 H1 l1 s1
theorem rdT_or {ea eb : Env → M D} {K : PySem.W.Frag} {σ : L2.St} {H : Hp} {Q : Bool → Hp → Prop} (h : rdT K (fun env => do let x ← (do let x ← ea env; let k ← boolD x; match k with | true => pure (.bl true) | false => eb env); boolD x) σ H Q) :
    tOr (rdT K fun env => do let x ← ea env; boolD x) (rdT K fun env => do let x ← eb env; boolD x) σ H Q := by
  obtain ⟨R, T, env, b, T', st, en, e, po⟩ := h
  obtain ⟨x, T1, e1, e2⟩ := bind_ok e
  obtain ⟨y, T2, e3, e4⟩ := bind_ok e1
  obtain ⟨k, T3, e5, e6⟩ := bind_ok e4
  refine ⟨R, T, env, k, T3, st, en, ?_, fun R1 H1 l1 s1 => ?_⟩
  · exact bind_mk e3 e5
  cases k with
  | false =>
    refine iteF ?_
    refine ⟨R1, T3, env, b, T', s1, en.mono l1, ?_, fun R2 H2 l2 s2 => po R2 H2 (l1.trans l2) s2⟩
    exact bind_mk (x := eb env) e6 e2
  | true =>
    refine iteT ?_
    obtain ⟨rfl, rfl⟩ := pure_ok e6
    obtain ⟨q, rfl⟩ := boolD_ok e2
    cases q
    exact po R1 H1 l1 s1
theorem rdT_not {ea : Env → M D} {K : PySem.W.Frag} {σ : L2.St} {H : Hp} {Q : Bool → Hp → Prop} (h : rdT K (fun env => do let x ← (do let x ← ea env; notD x); boolD x) σ H Q) : tNot (rdT K fun env => do let x ← ea env; boolD x) σ H Q := by
  obtain ⟨R, T, env, b, T', st, en, e, po⟩ := h
  obtain ⟨x, T1, e1, e2⟩ := bind_ok e
  obtain ⟨y, T2, e3, e4⟩ := bind_ok e1
  cases y <;> first | (cases e4; done) | skip
  rename_i c
  obtain ⟨rfl, rfl⟩ := pure_ok e4
  obtain ⟨q, rfl⟩ := boolD_ok e2
  cases q
  refine ⟨R, T, env, c, T2, st, en, ?_, fun R1 H1 l1 s1 => po R1 H1 l1 s1⟩
  exact bind_mk e3 rfl
theorem rdT_ite {ec ea eb : Env → M D} {K : PySem.W.Frag} {σ : L2.St} {H : Hp} {Q : Bool → Hp → Prop} (h : rdT K (fun env => do let x ← (do let x ← ec env; let k ← boolD x; match k with | true => ea env | false => eb env); boolD x) σ H Q) :
    (rdT K fun env => do let x ← ec env; boolD x) σ H fun c H1 => if c = true then (rdT K fun env => do let x ← ea env; boolD x) σ H1 Q else (rdT K fun env => do let x ← eb env; boolD x) σ H1 Q := by
  obtain ⟨R, T, env, b, T', st, en, e, po⟩ := h
  obtain ⟨x, T1, e1, e2⟩ := bind_ok e
  obtain ⟨y, T2, e3, e4⟩ := bind_ok e1
  obtain ⟨k, T3, e5, e6⟩ := bind_ok e4
  refine ⟨R, T, env, k, T3, st, en, ?_, fun R1 H1 l1 s1 => ?_⟩
  · exact bind_mk e3 e5
  cases k with
  | true =>
    refine iteT ?_
    refine ⟨R1, T3, env, b, T', s1, en.mono l1, ?_, fun R2 H2 l2 s2 => po R2 H2 (l1.trans l2) s2⟩
    exact bind_mk (x := ea env) e6 e2
  | false =>
    refine iteF ?_
    refine ⟨R1, T3, env, b, T', s1, en.mono l1, ?_, fun R2 H2 l2 s2 => po R2 H2 (l1.trans l2) s2⟩
    exact bind_mk (x := eb env) e6 e2
/-- a conditional expression's truth -/
theorem pt_ifE {c a b : Expr} {pos : Pos} {tc ta tb : TT} (hc : PT X c tc) (ha : PT X a ta) (hb : PT X b tb) : PT X (.IfExp c a b pos) (fun σ H Q => tc σ H fun k H1 => if k = true then ta σ H1 Q else tb σ H1 Q) := by
  refine ⟨fun pins s σ H Q I h => ?_⟩
  show wpAny _ _ (do if ← isTrue c X.env (eval c X.env) then isTrue a X.env (eval a X.env) else isTrue b X.env (eval b X.env)) _ _ s
  refine wpAny_bind (thn (hc.run pins s σ H _ I h) fun k s1 ⟨H1, I1, q⟩ => ?_)
  cases k with
  | true => exact ha.run pins s1 σ H1 Q I1 q
  | false => exact hb.run pins s1 σ H1 Q I1 q
theorem evalT_frz {a : E} {env : Env} {T T' : Store} {b : Bool} (h : evalT P call (.frz a) env T = .ok b T') : evalT P call a env T = .ok b T' := by
  obtain ⟨x, T1, e1, e2⟩ := bind_ok h
  have e1 : (evalE P call a env >>= fun x => frzD x) T = .ok x T1 := e1
  obtain ⟨y, T2, e3, e4⟩ := bind_ok e1
  show M.bind (evalE P call a env) (fun x => boolD x) T = _
  unfold M.bind
  rw [e3]
  cases y with
  | ref n =>
    exfalso
    replace e4 : frzC n T2 = .ok x T1 := e4
    unfold frzC at e4
    split at e4
    · cases e4
      cases e2
    · cases e4
      cases e2
    · cases e4
  | _ =>
    obtain ⟨rfl, rfl⟩ := pure_ok e4
    exact e2
theorem evalT_mut {a : E} {env : Env} {T T' : Store} {b : Bool} (h : evalT P call (.mut a) env T = .ok b T') : False := by
  obtain ⟨x, T1, e1, e2⟩ := bind_ok h
  have e1 : (evalE P call a env >>= fun x => mutD x) T = .ok x T1 := e1
  obtain ⟨y, T2, e3, e4⟩ := bind_ok e1
  cases y <;> first | (cases e4; done) | skip
  cases e4
  cases e2
/-! ### lists of their own by + and * -/
def rdOpF (K : PySem.W.Frag) (g : D → D → M D) : R2 := fun vx vy H Q => ∃ R T x y ds T', StOk K R T H ∧ Rep K R H x vx ∧ Rep K R H y vy ∧ g x y T = .ok (.lst ds) T' ∧ ∀ R' H' p vs, Le R H R' H' → StOk K R' T' H' → H' p = none → Reps K R' H' ds vs → Q (.ref p) (upd H' p (.lst vs))
theorem rdF_op {ea eb : Env → M D} {g : D → D → M D} {K : PySem.W.Frag} {σ : L2.St} {H : Hp} {Q : VK} (h : rdF K (fun env => do let x ← ea env; let y ← eb env; g x y) σ H Q) : tOp (rdOpF K g) (rdE K ea) (rdE K eb) σ H Q := by
  obtain ⟨R, T, env, d, T', st, en, e, po⟩ := h
  refine rd_then (f := fun env x => do let y ← eb env; g x y) st en e fun x T1 R1 H1 v e1 l1 s1 en1 r1 => ?_
  refine rd_then (f := fun _ y => g x y) s1 en1 e1 fun y T2 R2 H2 w e2 l2 s2 en2 r2 => ?_
  exact ⟨R2, T2, x, y, d, T', s2, Rep.mono l2 _ _ r1, r2, e2, fun R' H' p vs l s hp r => po R' H' p vs (l1.trans (l2.trans l)) s hp r⟩
theorem opF_add : OpR X (binaryOp .Add) (rdOpF X.K (opD .add)) := by
  intro pins s σ H vx vy v u Q I rv ru h
  obtain ⟨R, T, x, y, ds, T', st, rx, ry, e, po⟩ := h
  have hx : ∃ a b, isList T x = some a ∧ isList T y = some b ∧ okIf (lim (a.length + b.length)) (D.lst (a ++ b)) T = .ok (.lst ds) T' := by
    have gen : (match isList T x, isList T y with
      | some a, some b => okIf (lim (a.length + b.length)) (D.lst (a ++ b)) T
      | _, _ => .bad) = .ok (.lst ds) T' → ∃ a b, isList T x = some a ∧ isList T y = some b ∧ okIf (lim (a.length + b.length)) (D.lst (a ++ b)) T = .ok (.lst ds) T' := by
      intro e
      cases e1 : isList T x with
      | none => rw [e1] at e; cases e
      | some a =>
        cases e2 : isList T y with
        | none => rw [e1, e2] at e; cases e
        | some b => rw [e1, e2] at e; exact ⟨a, b, rfl, rfl, e⟩
    cases x with
    | int i => cases y <;> cases e
    | str i => cases y <;> first | (cases e; done) | (obtain ⟨_, q, _⟩ := okIf_ok e; cases q)
    | tup i => cases y <;> first | (cases e; done) | (obtain ⟨_, q, _⟩ := okIf_ok e; cases q)
    | _ => exact gen (by cases y <;> exact e)
  obtain ⟨a, b, ha, hb, e⟩ := hx
  obtain ⟨hl, q, rfl⟩ := okIf_ok e
  cases q
  obtain ⟨l, vs, rfl, h1, r1⟩ := isList_at st ha rx
  obtain ⟨m, us, rfl, h2, r2⟩ := isList_at st hb ry
  refine op_cat pins s σ H _ _ v u Q I rv ru ⟨l, m, vs, us, rfl, rfl, h1, h2, ?_, fun p hp => po R H p _ (Le.refl _ _) st hp (r1.append r2)⟩
  rw [r1.length, r2.length]
  exact lim_le hl
theorem opF_mul : OpR X (binaryOp .Mult) (rdOpF X.K (opD .mul)) := by
  intro pins s σ H vx vy v u Q I rv ru h
  obtain ⟨R, T, x, y, ds, T', st, rx, ry, e, po⟩ := h
  cases y with
  | int k =>
    have hx : ∃ a, isList T x = some a ∧ okIf (decide (-(2 ^ 63) ≤ k) && decide (k < 2 ^ 63) && lim (a.length * k.toNat)) (D.lst (List.replicate k.toNat a).flatten) T = .ok (.lst ds) T' := by
      have gen : (match isList T x with
        | some a => okIf (decide (-(2 ^ 63) ≤ k) && decide (k < 2 ^ 63) && lim (a.length * k.toNat)) (D.lst (List.replicate k.toNat a).flatten) T
        | none => .bad) = .ok (.lst ds) T' → ∃ a, isList T x = some a ∧ okIf (decide (-(2 ^ 63) ≤ k) && decide (k < 2 ^ 63) && lim (a.length * k.toNat)) (D.lst (List.replicate k.toNat a).flatten) T = .ok (.lst ds) T' := by
        intro e
        cases e1 : isList T x with
        | none => rw [e1] at e; cases e
        | some a => rw [e1] at e; exact ⟨a, rfl, e⟩
      cases x with
      | int i => obtain ⟨_, q, _⟩ := okIf_ok e; cases q
      | tup i => obtain ⟨_, q, _⟩ := okIf_ok e; cases q
      | _ => exact gen e
    obtain ⟨a, ha, e⟩ := hx
    obtain ⟨hl, q, rfl⟩ := okIf_ok e
    cases q
    simp only [Bool.and_eq_true, decide_eq_true_eq] at hl
    obtain ⟨l, vs, rfl, h1, r1⟩ := isList_at st ha rx
    refine op_rep pins s σ H _ _ v u Q I rv ru ⟨l, k, vs, rfl, ry, h1, hl.1.1, hl.1.2, ?_, fun p hp => po R H p _ (Le.refl _ _) st hp (r1.flat _)⟩
    rw [r1.length]
    exact lim_le hl.2
  | _ => cases x <;> cases e
def rdClF (K : PySem.W.Frag) (g : List D → M D) : List V → Hp → VK → Prop := fun vs H Q => ∃ R T xs ds T', StOk K R T H ∧ Reps K R H xs vs ∧ g xs T = .ok (.lst ds) T' ∧ ∀ R' H' p vs, Le R H R' H' → StOk K R' T' H' → H' p = none → Reps K R' H' ds vs → Q (.ref p) (upd H' p (.lst vs))
theorem rdF_cl {ea : Env → M (List D)} {g : List D → M D} {K : PySem.W.Frag} {σ : L2.St} {H : Hp} {Q : VK} (h : rdF K (fun env => do let x ← ea env; g x) σ H Q) : tCB (rdClF K g) (rdA K ea) σ H Q := by
  obtain ⟨R, T, env, d, T', st, en, e, po⟩ := h
  refine rdA_then (f := fun _ x => g x) st en e fun x T1 R1 H1 v e1 l1 s1 en1 r1 => ?_
  exact ⟨R1, T1, x, d, T', s1, r1, e1, fun R' H' p vs l s hp r => po R' H' p vs (l1.trans l) s hp r⟩
theorem clF_list : CallR X (.type "list") (rdClF X.K (bltD .list)) := by
  intro pins s σ H vs us Q I r h
  obtain ⟨R, T, xs, ds, T', st, rx, e, po⟩ := h
  cases xs with
  | nil => cases e
  | cons x xs =>
    cases xs with
    | nil =>
      obtain ⟨v, rfl, r1⟩ := len1 rx
      replace e : (match isSeq T x with
        | some xs => Res.ok (D.lst xs) T
        | none => .bad) = .ok (.lst ds) T' := e
      cases e1 : isSeq T x with
      | none => rw [e1] at e; cases e
      | some ys =>
        rw [e1] at e
        cases e
        obtain ⟨a, ws, rfl, q, r'⟩ := isSeq_at st e1 r1
        exact call_list_of pins s σ H _ us Q I r ⟨a, ws, rfl, q, fun l hl => po R H l ws (Le.refl _ _) st hl r'⟩
    | cons y xs =>
      cases xs with
      | nil => cases e
      | cons z zs => cases e
end
end Pz

set_option Elab.async false
set_option linter.all false
set_option maxRecDepth 100000
set_option maxHeartbeats 4000000
/-! C2: own classes. -/
namespace Pz
open PySem PySem.Spec L2

theorem lkS_mem {α : Type} {f : Str} : ∀ {l : List (Str × α)} {a : α}, lkS f l = some a → (f, a) ∈ l
  | [], _, h => by cases h
  | (g, b) :: r, a, h => by
    unfold lkS at h
    split at h
    · rename_i e
      cases h
      rw [← beqS_eq e]
      exact List.mem_cons_self
    · exact List.mem_cons_of_mem _ (lkS_mem h)
theorem clsIn_ok {c : Str} : ∀ {l : List ClsD} {cd : ClsD}, clsIn c l = some cd → cd ∈ l ∧ cd.name = c
  | [], _, h => by cases h
  | d :: r, cd, h => by
    unfold clsIn at h
    split at h
    · rename_i e
      cases h
      exact ⟨List.mem_cons_self, beqS_eq e⟩
    · obtain ⟨h1, h2⟩ := clsIn_ok h
      exact ⟨List.mem_cons_of_mem _ h1, h2⟩
theorem hasS_mem {f : Str} : ∀ {l : List Str}, hasS f l = true → f ∈ l
  | [], h => by cases h
  | g :: r, h => by
    simp only [hasS, Bool.or_eq_true] at h
    rcases h with h | h
    · rw [beqS_eq h]; exact List.mem_cons_self
    · exact List.mem_cons_of_mem _ (hasS_mem h)
theorem lookup_no {f : Str} : ∀ {ns : List Str} {vs : List V}, hasS f ns = false → (ns.zip vs).lookup f = none
  | [], _, _ => rfl
  | n :: ns, [], _ => rfl
  | n :: ns, v :: vs, h => by
    simp only [hasS, Bool.or_eq_false_iff] at h
    rw [List.zip_cons_cons, List.lookup_cons]
    have : (f == n) = false := by
      rw [beq_eq_false_iff_ne]
      intro z
      rw [← z, beqS_rfl] at h
      cases h.1
    rw [this]
    exact lookup_no h.2
section
variable {K : PySem.W.Frag} {R : Rho} {T : Store} {H : Hp}
theorem objOf_at {x : D} {v : V} {c : Str} {ns : List Str} {fs : List D} (st : StOk K R T H) (h : objOf T x = some (c, ns, fs)) (rx : Rep K R H x v) : ∃ a dx vs, v = .ref a ∧ H a = some (.ins (He.ga K c) dx (ns.zip vs)) ∧ ns.length = vs.length ∧ Reps K R H fs vs := by
  unfold objOf at h
  split at h
  · cases h
    obtain ⟨a, vs, rfl, ⟨_, dx, e, l⟩, r⟩ := rx
    exact ⟨a, dx, vs, rfl, e, l, r⟩
  · split at h
    · rename_i n _ c' ns' fs' e
      cases h
      obtain ⟨a, rfl, q⟩ := rx
      obtain ⟨⟨vs, ⟨dx, e1, l⟩, r⟩, _⟩ := st.cell n a _ q e rfl
      exact ⟨a, dx, vs, rfl, e1, l, r⟩
    · cases h
  · cases h
theorem fldOf_at {f : Str} {d : D} : ∀ {ns : List Str} {fs : List D} {vs : List V}, fldOf f ns fs = some d → ns.length = vs.length → Reps K R H fs vs → ∃ v, (ns.zip vs).lookup f = some v ∧ Rep K R H d v
  | [], _, _, h, _, _ => by cases h
  | n :: ns, [], _, h, _, _ => by cases h
  | n :: ns, d' :: fs, vs, h, l, r => by
    obtain ⟨v, r', rfl, r1, r2⟩ := r
    rw [List.zip_cons_cons, List.lookup_cons]
    unfold fldOf at h
    split at h
    · rename_i e
      cases h
      rw [beqS_eq e, beq_self_eq_true]
      exact ⟨v, rfl, r1⟩
    · rename_i e
      have : (f == n) = false := by
        rw [beq_eq_false_iff_ne]
        intro z
        rw [← z, beqS_rfl] at e
        cases e
      rw [this]
      exact fldOf_at h (by simpa using l) r2
theorem put_at {f : Str} {d : D} {v : V} (rv : Rep K R H d v) : ∀ {ns : List Str} {fs : List D} {vs : List V}, ns.length = vs.length → Reps K R H fs vs → ∃ vs', (putN f ns).zip vs' = putF f v (ns.zip vs) ∧ (putN f ns).length = vs'.length ∧ Reps K R H (putD f d ns fs) vs'
  | [], fs, vs, l, r => by
    cases vs with
    | cons _ _ => cases l
    | nil => exact ⟨[v], rfl, rfl, by cases fs <;> exact Reps.one rv⟩
  | n :: ns, [], vs, l, r => by
    cases r
    cases l
  | n :: ns, d' :: fs, vs, l, r => by
    obtain ⟨u, r', rfl, r1, r2⟩ := r
    unfold putN putD
    rw [List.zip_cons_cons]
    unfold putF
    cases e : beqS n f with
    | true =>
      rw [if_pos (beqS_eq e)]
      exact ⟨v :: r', rfl, by simpa using l, Reps.cons rv r2⟩
    | false =>
      have : ¬ n = f := fun z => by rw [z, beqS_rfl] at e; cases e
      rw [if_neg this]
      obtain ⟨vs', h1, h2, h3⟩ := put_at (f := f) rv (ns := ns) (by simpa using l) r2
      exact ⟨u :: vs', by rw [List.zip_cons_cons, h1], by simpa using h2, Reps.cons r1 h3⟩
end
theorem fillG_vals {n : Nat} {dvs : List V} {dus : List Value} {vs : List V} {us : List Value} (d : Vals dvs dus) (r : Vals vs us) : Vals (fillG n dvs vs) (fillG n dus us) := by
  unfold fillG
  rw [r.length, d.length]
  exact r.append (d.drop _)
theorem fillG_reps {K : PySem.W.Frag} {R : Rho} {H : Hp} {n : Nat} {dfl xs : List D} {dvs vs : List V} (d : Reps K R H dfl dvs) (r : Reps K R H xs vs) : Reps K R H (fillG n dfl xs) (fillG n dvs vs) := by
  unfold fillG
  rw [r.length, d.length]
  exact r.append (d.drop _)
theorem fillG_full {α : Type} {n : Nat} {dfl xs : List α} (h : xs.length = n) : fillG n dfl xs = xs := by
  unfold fillG
  rw [h, show n + dfl.length - n = dfl.length by omega, List.drop_length, List.append_nil]

section
variable {P : Prog} {call : Nat → List D → M D} {k : Nat} {N : List Str} {sc : Scope} {X : Cx}
theorem callF_ok {g : Nat} {fn : Fn} (e : P.fns[g]? = some fn) {xs : List D} {T T' : Store} {d : D} : callF P call g xs T = .ok d T' ↔ call g (fillD fn xs) T = .ok d T' := by
  unfold callF
  rw [e]
/-- a call with all arguments -/
theorem callF_of (C : CxOk P call k N sc X) {g : Nat} {fn : Fn} (e : P.fns[g]? = some fn) {xs : List D} {T T' : Store} {d : D} (h : call g xs T = .ok d T') : callF P call g xs T = .ok d T' := by
  rw [callF_ok e]
  unfold fillD
  rw [fillG_full (C.f.len g fn e _ _ _ _ h)]
  exact h
/-- the def g runs -/
theorem run_code (C : CxOk P call k N sc X) {g : Nat} {fn : Fn} (e : P.fns[g]? = some fn) : ∃ a, FnAt X.K X.mg fn a ∧ PySem.W.keepIn X.K (.ref a) = true ∧
    ∀ (A : Around) (pins : List (Addr × Obj)) (σ : L2.St) (H : Hp) (s : Shared) (vs : List V) (us : List Value) (Q : VK), Room k A → A.frames = X.A.frames → Inv X pins σ H s → Vals vs us → rdCl X.K (callF P call g) vs H Q →
      codeAny (model X.prog X.w) A (.call (.ref a) ⟨us, []⟩) (wants (EP X pins σ Q) X.xe) s := by
  obtain ⟨a, fd, dvs, dus, h1, h2, F, h4, h5, hb, _⟩ := C.f.fn g fn e
  refine ⟨a, h1, h2, fun A pins σ H s vs us Q hr hf I r h => ?_⟩
  obtain ⟨R, T, xs, d, T', st, rx, e1, po⟩ := h
  rw [callF_ok e] at e1
  have rp : Reps X.K R H (fillD fn xs) (fillG fn.ps.length dvs vs) := fillG_reps (h4 R H) rx
  have hl : (fillG fn.ps.length dvs vs).length = fn.ps.length := by rw [rp.length]; exact C.f.len g fn e _ _ _ _ e1
  have rr := fillG_vals (n := fn.ps.length) h5 r
  have sp : spF X.K fn.ps.length (call g) (fillG fn.ps.length dvs vs) H Q E0 := ⟨hl, R, T, _, d, T', st, rp, e1, po⟩
  have e0 : Env0 X.prog X.w X.K X.mg X.base A X.stack s H := by
    have e := I.env0
    exact ⟨by rw [hf]; exact e.frames, e.mod, e.bs, e.bsz, e.funs, e.frf, e.hok, e.bare⟩
  refine codeAny_mono (F.run A X.stack s H ⟨us, []⟩ _ _ Q E0 hr e0 (hb s us I.kIn (by rw [← rr.length]; exact hl)) rr sp) fun r s' hq => ?_
  cases r with
  | error z => exact hq.elim
  | ok fl =>
    cases fl with
    | ret u => exact I.after hq
    | _ => exact hq.elim
theorem run_fnA (C : CxOk P call k N sc X) {g : Nat} {fn : Fn} (e : P.fns[g]? = some fn) : ∃ a, FnAt X.K X.mg fn a ∧ PySem.W.keepIn X.K (.ref a) = true ∧
    ∀ (A : Around) (pins : List (Addr × Obj)) (σ : L2.St) (H : Hp) (s : Shared) (vs : List V) (us : List Value) (Q : VK), Room k A → A.frames = X.A.frames → Inv X pins σ H s → Vals vs us → rdCl X.K (callF P call g) vs H Q →
      wpAny (model X.prog X.w) A (PySem.call (.ref a) us) (EP X pins σ Q) X.xe s := by
  obtain ⟨a, h1, h2, h3⟩ := run_code C e
  exact ⟨a, h1, h2, fun A pins σ H s vs us Q hr hf I r h => wpAny_call (h3 A pins σ H s vs us Q hr hf I r h)⟩
/-- where the method stands -/
theorem methOf_at (C : CxOk P call k N sc X) {R : Rho} {T T1 : Store} {H : Hp} {x : D} {v : V} {m : Str} {g : Nat} (st : StOk X.K R T H) (h : methOf P x m T = .ok g T1) (rx : Rep X.K R H x v) :
    T1 = T ∧ ∃ a dx fs cd fn, v = .ref a ∧ H a = some (.ins (He.ga X.K cd.name) dx fs) ∧ fs.lookup m = none ∧ cd ∈ P.cls ∧ P.fns[g]? = some fn ∧ fn.name = m ∧ fn.own = .meth cd.name := by
  unfold methOf at h
  split at h
  · rename_i c ns fs e
    split at h
    · rename_i cd ec
      split at h
      · cases h
      · rename_i hs
        split at h
        · rename_i g' eg
          cases h
          obtain ⟨a, dx, vs, rfl, q, l, r⟩ := objOf_at st e rx
          obtain ⟨hc, rfl⟩ := clsIn_ok ec
          obtain ⟨fn, f1, f2, f3⟩ := (C.g.cls cd hc).mth _ (lkS_mem eg)
          exact ⟨rfl, a, dx, _, cd, fn, rfl, q, lookup_no hs, hc, f1, f2, f3⟩
        · cases h
    · cases h
  · cases h
/-- its call, the arguments being there -/
theorem run_meth (C : CxOk P call k N sc X) {cd : ClsD} {fn : Fn} {g : Nat} {m : Str} (e : P.fns[g]? = some fn) (hn : fn.name = m) (ho : fn.own = .meth cd.name) : ∃ f, Meth X.K (He.ga X.K cd.name) m f ∧ PySem.W.fnIn X.K f = true ∧
    ∀ (A : Around) (pins : List (Addr × Obj)) (σ : L2.St) (H : Hp) (s : Shared) (vs : List V) (us : List Value) (Q : VK), Room k A → A.frames = X.A.frames → Inv X pins σ H s → Vals vs us → rdCl X.K (callF P call g) vs H Q →
      wpAny (model X.prog X.w) A (PySem.call (.ref f) us) (EP X pins σ Q) X.xe s := by
  obtain ⟨f, h1, _, h3⟩ := run_fnA C e
  unfold FnAt at h1
  rw [ho] at h1
  subst hn
  exact ⟨f, h1.1, h1.2, h3⟩
theorem run_methC (C : CxOk P call k N sc X) {cd : ClsD} {fn : Fn} {g : Nat} {m : Str} (e : P.fns[g]? = some fn) (hn : fn.name = m) (ho : fn.own = .meth cd.name) : ∃ f, Meth X.K (He.ga X.K cd.name) m f ∧ PySem.W.fnIn X.K f = true ∧
    ∀ (A : Around) (pins : List (Addr × Obj)) (σ : L2.St) (H : Hp) (s : Shared) (vs : List V) (us : List Value) (Q : VK), Room k A → A.frames = X.A.frames → Inv X pins σ H s → Vals vs us → rdCl X.K (callF P call g) vs H Q →
      codeAny (model X.prog X.w) A (.call (.ref f) ⟨us, []⟩) (wants (EP X pins σ Q) X.xe) s := by
  obtain ⟨f, h1, _, h3⟩ := run_code C e
  unfold FnAt at h1
  rw [ho] at h1
  subst hn
  exact ⟨f, h1.1, h1.2, h3⟩
/-- an instance lies in the heap -/
theorem inst_at {pins : List (Addr × Obj)} {σ : L2.St} {H : Hp} {s : Shared} {a Ca dx : Addr} {fs : List (Str × V)} (I : Inv X pins σ H s) (h : H a = some (.ins Ca dx fs)) : ∃ od, PySem.W.InstAt s.heap a (PySem.W.instObj Ca dx) Ca od := by
  obtain ⟨mA, J, _⟩ := ins_get I.hok h
  obtain ⟨od, J, _⟩ := J.look
  exact ⟨_, J⟩
/-! ### x.f -/
theorem att_ok (C : CxOk P call k N sc X) {f : Str} {pins : List (Addr × Obj)} {σ : L2.St} {H : Hp} {s : Shared} {vx : V} {u : Value} {b : Bool} {Q : VK} (I : Inv X pins σ H s) (ru : RelV vx u) (h : rdUn X.K (fun x => attD P call x f) vx H Q) :
    wpAny (model X.prog X.w) X.A (getAttr u f b) (EP X pins σ Q) X.xe s := by
  obtain ⟨R, T, x, d, T', st, rx, e, po⟩ := h
  replace e : attD P call x f T = .ok d T' := e
  unfold attD at e
  split at e
  · rename_i c ns fs eo
    split at e
    · rename_i cd ec
      obtain ⟨a, dx, vs, rfl, q, l, r⟩ := objOf_at st eo rx
      obtain ⟨hc, rfl⟩ := clsIn_ok ec
      have K1 := C.g.cls cd hc
      obtain rfl : u = Value.ref a := ru
      split at e
      · rename_i hf
        split at e
        · rename_i d' ed
          cases e
          obtain ⟨v, e1, rv⟩ := fldOf_at ed l r
          exact getattr_ok I q K1.cls (K1.fld f (hasS_mem hf)) e1 fun u' s2 I2 ru2 => ⟨v, H, I2, ru2, Post.now st po rv⟩
        · cases e
      · split at e
        · rename_i g eg
          obtain ⟨fn, f1, f2, f3⟩ := K1.prp _ (lkS_mem eg)
          obtain ⟨ga, fd, dvs, dus, h1, h2, F, h4, h5, hb, _⟩ := C.f.fn g fn f1
          unfold FnAt at h1
          rw [f3] at h1
          obtain ⟨p, hp⟩ := h1
          dsimp only at f2
          rw [f2] at hp
          have sp : spF X.K fn.ps.length (call g) (V.ref a :: []) H Q E0 := ⟨C.f.len g fn f1 _ _ _ _ e, R, T, _, d, T', st, Reps.one rx, e, po⟩
          exact getprop_ok I q K1.cls hp F C.room hb.full .nil pass0 sp
        · cases e
    · cases e
  · cases e
theorem att_pe (C : CxOk P call k N sc X) {ea : Env → M D} {o : Expr} {f : Str} {pos : Pos} (hb : noCall0 o = true) (he : PE X o (rdE X.K ea)) : PE X (.Attribute o f pos) (rdE X.K fun env => do let x ← ea env; attD P call x f) := by
  refine ⟨fun pins s σ H Q I q => ?_⟩
  refine attr_of (att_base hb _ _) (thn (he.run pins s σ H _ I (rd_un q)) fun u s1 hh => ?_)
  obtain ⟨v, H1, I1, r1, q1⟩ := hh
  exact att_ok C I1 r1 q1
end
end Pz

set_option Elab.async false
set_option linter.all false
set_option maxRecDepth 100000
set_option maxHeartbeats 4000000
/-! C3: calls of methods, new instances, special methods. -/
namespace Pz
open PySem PySem.Spec L2

theorem wp_meth {prog : Program} {w : World} {A : Around} {E : Value → Shared → Prop} {s : Shared} {Q : Value → Shared → Prop} {o : Expr} {nm : Str} {ap cp : Pos} {xs : List Expr} {env : PySem.Env} (hb : noCall0 o = true) (hl : (ap.endLine == cp.line) = true) (hn : xs.length < 29)
    (hal : (backTo cp (starEach xs env)).all (fun x => !x.1) = true)
    (h : wpAny (model prog w) A (eval o env) (fun ov s1 => ∀ pl, wpAny (model prog w) A (getMethod ov nm pl) (fun fx s2 => wpAny (model prog w) A (callWith cp fx.1 fx.2 (backTo cp (starEach xs env)) (backToKw cp (keywordEach [] env))) Q E s2) E s1) E s) :
    wpAny (model prog w) A (eval (.Call (.Attribute o nm ap) xs [] cp) env) Q E s := by
  rw [arm_eval_Call, att_base hb]
  refine wpAny_bind (wpAny_mono h (fun ov s₁ h₁ => ?_) fun _ _ e => e)
  refine wpAny_bind (wpAny_standAt ?_)
  have hform : methodCallForm (xs.length + ([] : List Keyword).length) (backTo cp (starEach xs env)) (backToKw cp (keywordEach [] env)) = true := by
    unfold methodCallForm
    rw [hal]
    have : xs.length + ([] : List Keyword).length + (if (backToKw cp (keywordEach [] env)).isEmpty then 0 else 1) < 30 := by
      have e : (backToKw cp (keywordEach [] env)) = [] := rfl
      rw [e]
      simp only [List.isEmpty_nil, if_true, List.length_nil]
      omega
    rw [decide_eq_true this]
    rfl
  have hpos : methodCallPos true o env ap cp = pure cp := by unfold methodCallPos; simp [hl]
  unfold methodCall
  rw [hform]
  unfold calleeOf
  simp only [if_true]
  refine wpAny_bind (wpAny_holding (wpAny_mono (h₁ _) (fun fx s2 h2 => ?_) fun _ _ e => e))
  exact wpAny_bind (wpAny_of_eq hpos h2)

section
variable {P : Prog} {call : Nat → List D → M D} {k : Nat} {N : List Str} {sc : Scope} {X : Cx}
/-- the arguments, then a call -/
theorem callW {cp : Pos} {f : Value} {first : List Value} {xs : List Expr} {pins : List (Addr × Obj)} {σ : L2.St} {H : Hp} {s : Shared} {ta : TA} {Q : Value → Shared → Prop} {Z : List V → Hp → Prop} (I : Inv X pins σ H s) (hk : PySem.W.keepIn X.K f = true) (pa : PA X xs ta) (q : ta σ H Z)
    (hst : (xs = [] ∧ Z [] H) ∨ ∃ y ys, xs = y :: ys ∧ starEach (y :: ys) X.env = (false, eval y X.env) :: starEach ys X.env) (hpl : (backTo cp (starEach xs X.env)).any (·.1) = false)
    (h : ∀ us s2 vs H2, Inv X pins σ H2 s2 → Vals vs us → Z vs H2 → wpAny (model X.prog X.w) X.A (PySem.call f (first ++ us)) Q X.xe s2) :
    wpAny (model X.prog X.w) X.A (callWith cp f first (backTo cp (starEach xs X.env)) (backToKw cp (keywordEach [] X.env))) Q X.xe s := by
  rcases hst with ⟨rfl, z⟩ | ⟨y, ys, rfl, hst⟩
  · exact PySem.W.callWith_K0 I.kIn hk (h [] s [] H I .nil z)
  · have hpl' : (backTo cp (starEach ys X.env)).any (·.1) = false := by
      rw [hst] at hpl
      exact hpl
    exact PySem.W.callWith_K (h₀ := X.base) I.ok.mod.kin hk (thn (pa.run cp pins s σ H Z I q) fun us s2 hh => by
      obtain ⟨vs, H2, I2, r2, z⟩ := hh
      exact ⟨I2.kIn, h us s2 vs H2 I2 r2 z⟩) hst hpl'
/-- an argument list of the checked form -/
theorem args_st {es : List E} {xs : List Expr} (h : chkEs P N sc es xs = true) {σ : L2.St} {H : Hp} {Z : List V → Hp → Prop} (q : rdA X.K (evalEs P call es) σ H Z) : (xs = [] ∧ Z [] H) ∨ ∃ y ys, xs = y :: ys ∧ starEach (y :: ys) X.env = (false, eval y X.env) :: starEach ys X.env := by
  cases es with
  | nil =>
    cases xs with
    | nil => exact .inl ⟨rfl, rd_nil (show rdA X.K (fun _ => pure []) σ H Z by simpa only [evalEs] using q)⟩
    | cons _ _ => cases h
  | cons e es =>
    cases xs with
    | nil => cases h
    | cons x xs =>
      simp only [chkEs, Bool.and_eq_true] at h
      exact .inr ⟨x, xs, rfl, star_no h.1.1 xs X.env⟩
/-! ### o.m(..) -/
theorem meth_pe (C : CxOk P call k N sc X) {ea : Env → M D} {es : List E} {o : Expr} {m : Str} {ap cp : Pos} {xs : List Expr} (hb : noCall0 o = true) (hl : (ap.endLine == cp.line) = true) (hn : xs.length < 29) (he : PE X o (rdE X.K ea)) (hc : chkEs P N sc es xs = true) (pa : PA X xs (rdA X.K (evalEs P call es))) :
    PE X (.Call (.Attribute o m ap) xs [] cp) (rdE X.K fun env => do
      let x ← ea env
      let g ← methOf P x m
      let ds ← evalEs P call es env
      callF P call g (x :: ds)) := by
  refine ⟨fun pins s σ H Q I q => ?_⟩
  obtain ⟨hpl, hal⟩ := chkEs_star hc cp X.env
  obtain ⟨R, T, env, d, T', st, en, e, po⟩ := q
  refine wp_meth hb hl hn hal (thn (he.run pins s σ H (fun v H1 => ∃ R1 T1 x, Le R H R1 H1 ∧ StOk X.K R1 T1 H1 ∧ EnvOk X.K R1 H1 σ env ∧ Rep X.K R1 H1 x v ∧ (do
      let g ← methOf P x m
      let ds ← evalEs P call es env
      callF P call g (x :: ds)) T1 = .ok d T') I ?_) fun u s1 hh pl => ?_)
  · exact rd_then (f := fun env x => do
      let g ← methOf P x m
      let ds ← evalEs P call es env
      callF P call g (x :: ds)) st en e fun x T1 R1 H1 v e1 l1 s1 en1 r1 => ⟨R1, T1, x, l1, s1, en1, r1, e1⟩
  · obtain ⟨v, H1, I1, ru, R1, T1, x, l1, st1, en1, r1, e1⟩ := hh
    obtain ⟨g, T2, e2, e3⟩ := bind_ok e1
    obtain ⟨rfl, a, dx, fs, cd, fn, rfl, q1, q2, q3, q4, q5, q6⟩ := methOf_at C st1 e2 r1
    obtain ⟨f, M1, M2, M3⟩ := run_meth C q4 q5 q6
    obtain rfl : u = Value.ref a := ru
    refine getmeth_ok I1 q1 (C.g.cls cd q3).cls M1 q2 ?_
    have ra : rdA X.K (evalEs P call es) σ H1 (fun vs H2 => rdCl X.K (callF P call g) (V.ref a :: vs) H2 Q) := by
      refine rdA_then (f := fun _ ds => callF P call g (x :: ds)) st1 en1 e3 fun ds T3 R3 H3 vs e4 l3 s3 en3 r3 => ?_
      exact ⟨R3, T3, _, d, T', s3, Reps.cons (Rep.mono l3 _ _ r1) r3, e4, po.later (l1.trans l3)⟩
    refine callW (first := [.ref a]) I1 M1.kp pa ra (args_st hc ra) hpl fun us s2 vs H2 I2 r2 z => ?_
    exact M3 X.A pins σ H2 s2 (V.ref a :: vs) (Value.ref a :: us) Q C.hr rfl I2 (.cons rfl r2) z
/-! ### C.m(..), static -/
theorem stat_pe (C : CxOk P call k N sc X) {c m : Str} {es : List E} {ap cp np : Pos} {xs : List Expr} (hg : isGlo sc c = true) (hk : nameOk c = true) (hl : (ap.endLine == cp.line) = true) (hn : xs.length < 29) (hc : chkEs P N sc es xs = true) (pa : PA X xs (rdA X.K (evalEs P call es))) {g : Nat} (hs : statOf P c m = some g) :
    PE X (.Call (.Attribute (.Name c np) m ap) xs [] cp) (rdE X.K fun env => do
      let ds ← evalEs P call es env
      callF P call g ds) := by
  obtain ⟨d1, d2, d3⟩ := nameOk_d hk
  unfold statOf at hs
  split at hs
  · rename_i cd ec
    obtain ⟨hcd, rfl⟩ := clsIn_ok ec
    have K1 := C.g.cls cd hcd
    obtain ⟨fn, f1, f2, f3⟩ := K1.sta _ (lkS_mem hs)
    obtain ⟨a, h1, h2, h3⟩ := run_fnA C f1
    unfold FnAt at h1
    rw [f3] at h1
    obtain ⟨p, hp, rest, hr⟩ := h1
    dsimp only at f2
    rw [f2] at hp
    refine ⟨fun pins s σ H Q I q => ?_⟩
    obtain ⟨hpl, hal⟩ := chkEs_star hc cp X.env
    refine wp_meth rfl hl hn hal (ld_glob I (C.gl hg) K1.glo (fun pl => ?_) d1)
    refine PySem.W.method_cls I.kIn K1.gat (PySem.W.cls_bind I.kIn K1.rd hp (wpAny_call (PySem.W.sm_get (s := { s with toks := s.toks + 1 }) I.kIn hr ?_)))
    refine PySem.W.handed_on rfl ?_
    have ra : rdA X.K (evalEs P call es) σ H (fun vs H2 => rdCl X.K (callF P call g) vs H2 Q) := by
      obtain ⟨R, T, env, d, T', st, en, e, po⟩ := q
      refine rdA_then (f := fun _ ds => callF P call g ds) st en e fun ds T3 R3 H3 vs e4 l3 s3 en3 r3 => ?_
      exact ⟨R3, T3, _, d, T', s3, r3, e4, po.later l3⟩
    refine callW (first := []) (I.tok _) h2 pa ra (args_st hc ra) hpl fun us s2 vs H2 I2 r2 z => ?_
    exact h3 X.A pins σ H2 s2 vs us Q C.hr rfl I2 r2 z
  · cases hs
end
end Pz

set_option Elab.async false
set_option linter.all false
set_option maxRecDepth 100000
set_option maxHeartbeats 4000000
/-! C4: new instances. -/
namespace Pz
open PySem PySem.Spec L2
section
variable {P : Prog} {call : Nat → List D → M D} {k : Nat} {N : List Str} {sc : Scope} {X : Cx}
theorem makeD_ok {z : Bool} {c : Str} {ds : List D} {T T2 : Store} {d : D} (h : makeD P call z c ds T = .ok d T2) : ∃ cd g fn T', clsIn c P.cls = some cd ∧ lkS "__init__" cd.mths = some g ∧ P.fns[g]? = some fn ∧
    call g (fillD fn (.ref T.length :: ds)) (T ++ [.obj c [] []]) = .ok .non T' ∧ ((d = .ref T.length ∧ T2 = T') ∨ ∃ c' ns fs, T'[T.length]? = some (.obj c' ns fs) ∧ d = .obj c' ns fs ∧ T2 = gcS true T (T'.set T.length .dead) d) := by
  unfold makeD at h
  split at h
  · rename_i cd ec
    split at h
    · rename_i g eg
      split at h
      · rename_i T' e1
        unfold callF at e1
        cases ef : P.fns[g]? with
        | none => rw [ef] at e1; cases e1
        | some fn =>
          rw [ef] at e1
          refine ⟨cd, g, fn, T', ec, eg, ef, e1, ?_⟩
          split at h
          · cases h
            exact .inl ⟨rfl, rfl⟩
          · split at h
            · rename_i c' ns fs e3
              cases h
              exact .inr ⟨c', ns, fs, e3, rfl, rfl⟩
            · cases h
      · cases h
    · cases h
  · cases h
theorem make_pe (C : CxOk P call k N sc X) {z : Bool} {c : Str} {es : List E} {np cp : Pos} {xs : List Expr} (hg : isGlo sc c = true) (hk : nameOk c = true) (hc : chkEs P N sc es xs = true) (pa : PA X xs (rdA X.K (evalEs P call es))) :
    PE X (.Call (.Name c np) xs [] cp) (rdE X.K fun env => do
      let ds ← evalEs P call es env
      makeD P call z c ds) := by
  obtain ⟨d1, d2, d3⟩ := nameOk_d hk
  refine ⟨fun pins s σ H Q I q => ?_⟩
  obtain ⟨hpl, hal⟩ := chkEs_star hc cp X.env
  obtain ⟨R, T, env, d, T', st, en, e, po⟩ := q
  obtain ⟨ds, T1, e1, e2⟩ := bind_ok e
  obtain ⟨cd, g, fn, T2, h1, h2, h3, h4, h5⟩ := makeD_ok e2
  obtain ⟨hcd, rfl⟩ := clsIn_ok h1
  have K1 := C.g.cls cd hcd
  obtain ⟨fn', f1, f2, f3⟩ := K1.mth _ (lkS_mem h2)
  dsimp only at f1 f2
  rw [h3] at f1
  cases f1
  obtain ⟨a, fd, dvs, dus, g1, g2, F, g4, g5, hb, _⟩ := C.f.fn g fn h3
  unfold FnAt at g1
  rw [f3] at g1
  have M1 := g1.1
  rw [f2] at M1
  have Mk1 : Mk X.K (He.ga X.K cd.name) a := ⟨K1.mkr, M1.at_, M1.fn, K1.kp⟩
  have ra : rdA X.K (evalEs P call es) σ H (fun vs H2 => ∃ R2, Le R H R2 H2 ∧ StOk X.K R2 T1 H2 ∧ Reps X.K R2 H2 ds vs) :=
    ⟨R, T, env, ds, T1, st, en, e1, fun R2 H2 vs l2 s2 r2 => ⟨R2, l2, s2, r2⟩⟩
  refine wpAny_Call_Name_kw (ld_glob I (C.gl hg) K1.glo ?_ d1)
  refine callW (first := []) I K1.kp pa ra (args_st hc ra) hpl fun us s2 vs H2 I2 r2 zz => ?_
  obtain ⟨R2, l2, st2, rs⟩ := zz
  refine run_make (dvs := dvs.drop (vs.length + 1 + dus.length - fn.ps.length)) (ds := dus.drop (vs.length + 1 + dus.length - fn.ps.length)) (E := E0) Mk1 F C.room (hb.drop _) (g5.drop _) pass0 I2 r2 fun x dx hx hdx hne => ?_
  obtain ⟨la, sa⟩ := st2.other (o := .own x) hdx
  have hx' : upd H2 dx (.own x) x = none := by rw [upd_ne (Ne.symm hne)]; exact hx
  obtain ⟨lb, sb⟩ := sa.newCell (o := .ins (He.ga X.K cd.name) dx []) (c := .obj cd.name [] []) hx' fun R' l' => ⟨[], ⟨dx, upd_same, rfl⟩, rfl⟩
  have lab := la.trans lb
  have hcell : ({ R2 with cell := R2.cell ++ [x] } : Rho).cell[T1.length]? = some x := by
    show (R2.cell ++ [x])[T1.length]? = some x
    rw [← st2.len, List.getElem?_append_right (Nat.le_refl _), Nat.sub_self]
    rfl
  have rp : Reps X.K { R2 with cell := R2.cell ++ [x] } (upd (upd H2 dx (.own x)) x (.ins (He.ga X.K cd.name) dx [])) (fillD fn (.ref T1.length :: ds)) (fillG fn.ps.length dvs (.ref x :: vs)) :=
    fillG_reps (g4 _ _) (Reps.cons ⟨x, rfl, hcell⟩ (Reps.mono lab _ _ rs))
  have efill : fillG fn.ps.length dvs (V.ref x :: vs) = V.ref x :: (vs ++ dvs.drop (vs.length + 1 + dus.length - fn.ps.length)) := by
    unfold fillG
    rw [← g5.length]
    rfl
  rw [efill] at rp
  refine ⟨by rw [rp.length]; exact C.f.len g fn h3 _ _ _ _ h4, _, _, _, .non, T2, sb, rp, h4, fun R3 H3 v l3 s3 r3 => ⟨r3, ?_⟩⟩
  have cx := l3.get hcell
  rcases h5 with ⟨rfl, rfl⟩ | ⟨c', ns, fs, e5, rfl, rfl⟩
  · exact po R3 H3 (.ref x) (l2.trans (lab.trans l3)) s3 ⟨x, rfl, cx⟩
  · obtain ⟨l4, s4, vs4, q4, r4⟩ := s3.freezeC cx e5 rfl
    have r5 : Rep X.K { R3 with fz := fun b => R3.fz b ∨ b = x } H3 (.obj c' ns fs) (.ref x) := ⟨x, vs4, rfl, ⟨.inr rfl, q4⟩, Reps.mono l4 _ _ r4⟩
    obtain ⟨R5, l5, s5, r6⟩ := gc_ok (b := true) st2 ((lab.trans l3).trans l4) s4 r5
    exact po R5 H3 (.ref x) (l2.trans l5) s5 r6
end
end Pz

set_option Elab.async false
set_option linter.all false
set_option maxRecDepth 100000
set_option maxHeartbeats 4000000
/-! C5: ==, !=, len, in, [..], (..), + by own methods; isinstance with own classes. -/
namespace PzC
open PySem PySem.W PySem.Calls PyProof.Rows
section
variable {prog : Program} {w : World} {A : Around} {E : Value → Shared → Prop} {s : Shared} {K : Frag} {x C f : Addr} {ox : Obj} {od : Option Obj} {b tb : Value}
theorem sub_obj (X : K.In s.heap) (I : InstAt s.heap x ox C od) (hm : mroIn K C (.type "object") = some true) {Q : Unit → Shared → Prop} (q : Q () s) : wpAny (model prog w) A (checkBuiltinCall "object.__ne__" ⟨[.ref x, b], []⟩) Q E s := by
  simp only [checkBuiltinCall, PySem.F.cmpKind_ne, PySem.F.cmpSplit_ne]
  refine wpAny_bind ?_
  unfold isInstance
  refine wpAny_bind (I.type.here ((looks_mroIn X hm).here ?_))
  cases hsig : Manifest.signature? "object.__ne__" with
  | none => exact wpAny_pure q
  | some sig =>
    have ha := PySem.F.cmpArgs_ne (.ref x) b
    simp only [argsOk, hsig] at ha
    have h2 : Bind.checkArgs "object.__ne__" sig ⟨[.ref x, b], []⟩ = pure () := ha
    show wpAny _ A (Bind.checkArgs "object.__ne__" sig ⟨[.ref x, b], []⟩) Q E _
    rw [h2]
    exact wpAny_pure q
theorem ne_own {Q : Value → Shared → Prop} (hu : A.units + 1 < cLine) (X : K.In s.heap) (I : InstAt s.heap x ox C od) (hb : Looks (model prog w) s.heap (typeOf b) tb) (hn : notFirst K C tb = true)
    (hne : findIn K (.ref C) "__ne__" = some (some (.builtin "object.__ne__"))) (hm : mroIn K C (.type "object") = some true) (hs : findIn K (.ref C) "__eq__" = some (some (.ref f))) (hf : isFn K (.ref f) = true)
    (h : wpAny (model prog w) A.in1 (call (.ref f) [.ref x, b]) (fun v s' => ∃ r, v = .bool r ∧ Q (.bool (!r)) s') E s) : wpAny (model prog w) A (richCompare .NotEq (.ref x) b) Q E s := by
  have body : ∀ R : Fin → Shared → Prop, wpAny (model prog w) A.in1 (call (.ref f) [.ref x, b]) (fun v s' => ∃ r, v = .bool r ∧ R (.done (.ret (.bool (!r)))) s') E s → wpAny (model prog w) A.in1 (Builtin.«object.__ne__» ⟨[.ref x, b], []⟩) R E s := by
    intro R hh
    unfold Builtin.«object.__ne__»
    repeat (first
      | with_reducible refine wpAny_cRoomFor hu ?_
      | (refine wpAny_bind (m := callSpecialIfBound? (.ref x) (Str.ofString "__eq__") [b]) (ifBound_K X I hs hf (wpAny_mono hh (fun v s' hv => by
          obtain ⟨r, rfl, hq⟩ := hv
          exact wpAny_bind (wpAny_truthy_bool (wpAny_pure hq))) fun _ _ e => e)))
      | wp_step)
  have one : wpAny (model prog w) A (tryCompare (.ref x) (cmpInfo .NotEq).2.1 b) (fun r s' => ∃ v, r = some v ∧ Q v s') E s := by
    unfold tryCompare
    refine wpAny_bind ?_
    simp only [callSpecialIfBound?, bindSpecialIfBound?]
    refine wpAny_holding (wpAny_bind (wpAny_bind (wpAny_bind (I.type.here ((looks_findIn X hne).here ?_)))))
    have hbd := PySem.F.cmp_object.ne.bind (.ref x)
    have fin : wpAny (model prog w) A (call (.builtin "object.__ne__") ([.ref x] ++ [b]) >>= fun v => pure (some v)) (fun r s' => wpAny (model prog w) A (match r with
        | some .notImplemented | none => pure none
        | some v => pure (some v)) (fun r s' => ∃ v, r = some v ∧ Q v s') E s') E s := by
      refine wpAny_bind (wpAny_call (codeAny_call_builtin PySem.F.cmp_object.ne.plain PySem.F.cmpEntry_ne (sub_obj X I hm (body _ (wpAny_mono h (fun v s' hv => ?_) fun _ _ e => e)))))
      obtain ⟨r, rfl, hq⟩ := hv
      exact ⟨r, rfl, wpAny_pure (wpAny_pure ⟨_, rfl, hq⟩)⟩
    refine wpAny_bind (wpAny_askSetting (wpAny_ite ?_))
    simp only [hbd]
    split
    · exact wpAny_bind (wpAny_pure (wpAny_pure (by exact fin)))
    · exact wpAny_tryCatch (wpAny_bind (wpAny_pure (wpAny_pure (by exact fin))))
  unfold richCompare
  simp only [oneThing_ref]
  refine wpAny_holding (wpAny_bind (wpAny_cRoomFor (Nat.lt_of_succ_lt hu) ?_))
  refine wpAny_bind (I.type.here (wpAny_bind (hb.here ?_)))
  split
  · rename_i q
    have e : subIn K tb (.ref C) = some false := by
      rcases Bool.or_eq_true_iff.mp hn with e | e
      · rw [beq_iff_eq.mp e] at q; simp at q
      · exact beq_iff_eq.mp e
    refine wpAny_bind ((looks_subIn X e).here ?_)
    simp only [Bool.false_eq_true, if_false]
    refine wpAny_bind (wpAny_mono one (fun r s' z => ?_) fun _ _ e => e)
    obtain ⟨v, rfl, hq⟩ := z
    exact wpAny_pure hq
  · refine wpAny_bind (wpAny_pure ?_)
    simp only [Bool.false_eq_true, if_false]
    refine wpAny_bind (wpAny_mono one (fun r s' z => ?_) fun _ _ e => e)
    obtain ⟨v, rfl, hq⟩ := z
    exact wpAny_pure hq
end
end PzC

set_option Elab.async false
set_option linter.all false
set_option maxRecDepth 100000
set_option maxHeartbeats 4000000
/-! C6: special methods by the interpreter. -/
namespace Pz
open PySem PySem.Spec L2
section
variable {P : Prog} {call : Nat → List D → M D} {k : Nat} {N : List Str} {sc : Scope} {X : Cx}
theorem ty_name {K : PySem.W.Frag} {R : Rho} {T : Store} {H : Hp} {x : D} {v : V} (st : StOk K R T H) (rx : Rep K R H x v) (h : tyD T x .int ≠ none) : ∃ n, n ∈ bltTys ∧ TyX K H v (.type n) := by
  obtain ⟨n, ty, _, hn⟩ := ty_of st rx h
  exact ⟨n, hn, ty⟩
theorem obj_ty (C : CxOk P call k N sc X) {cd : ClsD} (hc : cd ∈ P.cls) {H : Hp} {a dx : Addr} {fs : List (Str × V)} (h : H a = some (.ins (He.ga X.K cd.name) dx fs)) : TyX X.K H (.ref a) (.ref (He.ga X.K cd.name)) := by
  have K1 := C.g.cls cd hc
  exact .base (.ins h K1.cls K1.cla K1.clg K1.clt K1.mro)
theorem tyKnown_at (C : CxOk P call k N sc X) {R : Rho} {T : Store} {H : Hp} {y : D} {v : V} (st : StOk X.K R T H) (h : tyKnown P T y = true) (ry : Rep X.K R H y v) : ∃ tb, TyX X.K H v tb ∧ ∀ cd ∈ P.cls, PySem.W.notFirst X.K (He.ga X.K cd.name) tb = true := by
  unfold tyKnown at h
  split at h
  · rename_i c ns fs eo
    obtain ⟨cd, ec⟩ := Option.isSome_iff_exists.mp h
    obtain ⟨hcd, rfl⟩ := clsIn_ok ec
    obtain ⟨a, dx, vs, rfl, q, l, r⟩ := objOf_at st eo ry
    exact ⟨_, obj_ty C hcd q, fun cd2 h2 => ((C.g.cls cd2 h2).own cd hcd).2⟩
  · obtain ⟨n, hn, ty⟩ := ty_name st ry (by
      intro z
      rw [z] at h
      cases h)
    refine ⟨_, ty, fun cd2 h2 => ?_⟩
    have := ((C.g.cls cd2 h2).tik n hn).2
    unfold PySem.W.notFirst
    rw [this]
    simp
/-- the method, called with two -/
theorem two_ok (C : CxOk P call k N sc X) {R : Rho} {T T2 : Store} {H : Hp} {x y : D} {vx vy : V} {g : Nat} {fn : Fn} (e : P.fns[g]? = some fn) {r : D} (st : StOk X.K R T H) (rx : Rep X.K R H x vx) (ry : Rep X.K R H y vy) (h : call g [x, y] T = .ok r T2) {Q : VK} (po : Post X.K R H r T2 Q) : rdCl X.K (callF P call g) [vx, vy] H Q :=
  ⟨R, T, [x, y], r, T2, st, Reps.cons rx (Reps.one ry), callF_of C e h, po⟩
theorem op_eqO (C : CxOk P call k N sc X) (neg : Bool) : OpR X (compareOp (eqP neg)) (rdOp X.K (eqOD P call neg)) := by
  intro pins s σ H vx vy v u Q I rv ru h
  obtain ⟨R, T, x, y, d, T', st, rx, ry, e, po⟩ := h
  replace e : eqOD P call neg x y T = .ok d T' := e
  unfold eqOD at e
  obtain ⟨g, T1, e1, f1⟩ := bind_ok e
  obtain ⟨rfl, a, dx, fs, cd, fn, rfl, q1, q2, q3, q4, q5, q6⟩ := methOf_at C st e1 rx
  obtain ⟨_, T2, e2, f2⟩ := bind_ok f1
  obtain ⟨hk, _, rfl⟩ := okIf_ok e2
  obtain ⟨r, T3, e3, f3⟩ := bind_ok f2
  obtain ⟨b, T4, e4, e5⟩ := bind_ok f3
  obtain ⟨rfl, rfl⟩ := boolD_ok e4
  obtain ⟨rfl, rfl⟩ := pure_ok e5
  obtain ⟨f, M1, M2, M3⟩ := run_meth C q4 q5 q6
  obtain rfl : v = Value.ref a := rv
  obtain ⟨od, J⟩ := inst_at I q1
  obtain ⟨tb, ty, hn⟩ := tyKnown_at C st hk ry
  obtain ⟨P', Z, p, _⟩ := kit_of I ru ty
  obtain ⟨m, hF⟩ := I.fr
  have hb := Z.ty (model X.prog X.w) s.heap I.kIn p
  have K1 := C.g.cls cd q3
  have run : ∀ (A : Around), Room k A → A.frames = X.A.frames → wpAny (model X.prog X.w) A (PySem.call (.ref f) [.ref a, u]) (EP X pins σ (fun w H' => w = .bl b ∧ Q (.bl (b != neg)) H')) X.xe s := fun A hr hf =>
    M3 A pins σ H s [V.ref a, vy] [.ref a, u] _ hr hf I (.cons rfl (.cons ru .nil)) (two_ok C q4 st rx ry e3 fun R' H' w l s' r' => ⟨r', po R' H' _ l s' rfl⟩)
  cases neg with
  | false =>
    show wpAny _ _ (richCompare .Eq (.ref a) u) _ _ s
    refine PySem.W.cmp_K (op := .Eq) (by have := C.hu; omega) hF I.ok.mod.kin J hb (hn cd q3) M1.at_ M1.fn (wpAny_mono (run X.A C.hr rfl) (fun w s' hw => ?_) fun _ _ z => z)
    obtain ⟨z, H', I', rz, rfl, q⟩ := hw
    cases rz
    exact ⟨.bl b, H', I', rfl, by rw [Bool.bne_false] at q; exact q⟩
  | true =>
    show wpAny _ _ (richCompare .NotEq (.ref a) u) _ _ s
    refine PzC.ne_own (by have := C.hu; omega) I.kIn J hb (hn cd q3) K1.ne K1.mro M1.at_ M1.fn (wpAny_mono (run X.A.in1 C.room.in1 rfl) (fun w s' hw => ?_) fun _ _ z => z)
    obtain ⟨z, H', I', rz, rfl, q⟩ := hw
    cases rz
    exact ⟨b, rfl, .bl (!b), H', I', rfl, by rw [Bool.bne_true] at q; exact q⟩
theorem op_inO (C : CxOk P call k N sc X) (neg : Bool) : OpR X (compareOp (inP neg)) (rdOp X.K (inOD P call neg)) := by
  intro pins s σ H vy vx u v Q I ru rv h
  obtain ⟨R, T, y, x, d, T', st, ry, rx, e, po⟩ := h
  replace e : inOD P call neg y x T = .ok d T' := e
  unfold inOD at e
  obtain ⟨g, T1, e1, f1⟩ := bind_ok e
  obtain ⟨rfl, a, dx, fs, cd, fn, rfl, q1, q2, q3, q4, q5, q6⟩ := methOf_at C st e1 rx
  obtain ⟨r, T3, e3, f3⟩ := bind_ok f1
  obtain ⟨b, T4, e4, e5⟩ := bind_ok f3
  obtain ⟨rfl, rfl⟩ := boolD_ok e4
  obtain ⟨rfl, rfl⟩ := pure_ok e5
  obtain ⟨f, M1, M2, M3⟩ := run_meth C q4 q5 q6
  obtain rfl : v = Value.ref a := rv
  obtain ⟨od, J⟩ := inst_at I q1
  obtain ⟨m, hF⟩ := I.fr
  have run := M3 X.A pins σ H s [V.ref a, vy] [.ref a, u] (fun w H' => w = .bl b ∧ Q (.bl (b != neg)) H') C.hr rfl I (.cons rfl (.cons ru .nil)) (two_ok C q4 st rx ry e3 fun R' H' w l s' r' => ⟨r', po R' H' _ l s' rfl⟩)
  cases neg with
  | false =>
    refine PySem.W.in_K hF I.ok.mod.kin J M1.at_ M1.fn (wpAny_mono run (fun w s' hw => ?_) fun _ _ z => z)
    obtain ⟨z, H', I', rz, rfl, q⟩ := hw
    cases rz
    exact wpAny_truthy_bool ⟨.bl b, H', I', rfl, by rw [Bool.bne_false] at q; exact q⟩
  | true =>
    refine PySem.W.notIn_K hF I.ok.mod.kin J M1.at_ M1.fn (wpAny_mono run (fun w s' hw => ?_) fun _ _ z => z)
    obtain ⟨z, H', I', rz, rfl, q⟩ := hw
    cases rz
    exact wpAny_truthy_bool ⟨.bl (!b), H', I', rfl, by rw [Bool.bne_true] at q; exact q⟩
theorem oop_dun (op : OOp) : PySem.dunder (oopP op).info.2 = oopN op := by cases op <;> decide +kernel
def CmpNN : Value → Prop
  | .notImplemented => False
  | _ => True
theorem rel_nn {z : V} {w : Value} (r : RelV z w) : CmpNN w := by
  cases z with
  | int i => obtain ⟨t, rfl⟩ := r; trivial
  | str i => obtain ⟨t, rfl⟩ := r; trivial
  | byt i => obtain ⟨t, rfl⟩ := r; trivial
  | flt i => obtain ⟨t, rfl⟩ := r; trivial
  | _ => cases r; trivial
theorem op_binO (C : CxOk P call k N sc X) (op : OOp) : OpR X (binaryOp (oopP op)) (rdOp X.K (binOD P call op)) := by
  intro pins s σ H vx vy v u Q I rv ru h
  obtain ⟨R, T, x, y, d, T', st, rx, ry, e, po⟩ := h
  replace e : binOD P call op x y T = .ok d T' := e
  unfold binOD at e
  obtain ⟨g, T1, e1, f1⟩ := bind_ok e
  obtain ⟨rfl, a, dx, fs, cd, fn, rfl, q1, q2, q3, q4, q5, q6⟩ := methOf_at C st e1 rx
  obtain ⟨_, T2, e2, e3⟩ := bind_ok f1
  obtain ⟨hk, _, rfl⟩ := okIf_ok e2
  obtain ⟨f, M1, M2, M3⟩ := run_meth C q4 q5 q6
  obtain rfl : v = Value.ref a := rv
  obtain ⟨od, J⟩ := inst_at I q1
  obtain ⟨m, hF⟩ := I.fr
  unfold sameCls at hk
  split at hk
  · rename_i c ns fs' c' ns' fs'' o1 o2
    have hcc := beqS_eq hk
    subst hcc
    obtain ⟨a1, dx1, vs1, z1, w1, _, _⟩ := objOf_at st o1 rx
    cases z1
    rw [q1] at w1
    have hC : He.ga X.K cd.name = He.ga X.K c := by injection w1 with w1; injection w1
    obtain ⟨a2, dx2, vs2, rfl, w2, _, _⟩ := objOf_at st o2 ry
    rw [← hC] at w2
    obtain rfl : u = Value.ref a2 := ru
    obtain ⟨od2, J2⟩ := inst_at I w2
    have run := M3 X.A pins σ H s [V.ref a, .ref a2] [.ref a, .ref a2] Q C.hr rfl I (.cons rfl (.cons rfl .nil)) (two_ok C q4 st rx ry e3 po)
    refine PySem.W.binop_K hF I.ok.mod.kin J J2.type (C.g.cls cd q3).sf (by rw [oop_dun]; exact M1.at_) M1.fn (wpAny_mono run (fun w s' hw => ?_) fun _ _ z => z)
    obtain ⟨z, H', I', rz, q⟩ := hw
    have : CmpNN w := rel_nn rz
    cases w <;> first | exact this.elim | exact ⟨z, H', I', rz, q⟩
  · cases hk
end
end Pz

set_option Elab.async false
set_option linter.all false
set_option maxRecDepth 100000
set_option maxHeartbeats 4000000
/-! C7: calls of instances, len, [..]; starred displays, tuples that are locked. -/
namespace Pz
open PySem PySem.Spec L2
section
variable {P : Prog} {call : Nat → List D → M D} {k : Nat} {N : List Str} {sc : Scope} {X : Cx}
theorem methOf_ref {x : D} {m : Str} {T T1 : Store} {g : Nat} (h : methOf P x m T = .ok g T1) {K : PySem.W.Frag} {R : Rho} {H : Hp} {v : V} (rx : Rep K R H x v) : ∃ a, v = .ref a := by
  unfold methOf at h
  split at h
  · rename_i c ns fs e
    unfold objOf at e
    split at e
    · obtain ⟨a, vs, rfl, _⟩ := rx; exact ⟨a, rfl⟩
    · obtain ⟨a, rfl, _⟩ := rx; exact ⟨a, rfl⟩
    · cases e
  · cases h
theorem callO_pe (C : CxOk P call k N sc X) {ea : Env → M D} {es : List E} {nm : Str} {np cp : Pos} {xs : List Expr} (hne : xs ≠ []) (he : PE X (.Name nm np) (rdE X.K ea)) (hc : chkEs P N sc es xs = true) (pa : PA X xs (rdA X.K (evalEs P call es))) :
    PE X (.Call (.Name nm np) xs [] cp) (rdE X.K fun env => do
      let x ← ea env
      let ds ← evalEs P call es env
      callOD P call x ds) := by
  refine ⟨fun pins s σ H Q I q => ?_⟩
  obtain ⟨hpl, hal⟩ := chkEs_star hc cp X.env
  obtain ⟨R, T, env, d, T', st, en, e, po⟩ := q
  obtain ⟨x, T1, e1, f1⟩ := bind_ok e
  obtain ⟨ds, T2, e2, f2⟩ := bind_ok f1
  have f2 : callOD P call x ds T2 = .ok d T' := f2
  unfold callOD at f2
  obtain ⟨g, T3, e3, e4⟩ := bind_ok f2
  refine wpAny_Call_Name_kw (thn (he.run pins s σ H (fun v H1 => ∃ R1, Le R H R1 H1 ∧ StOk X.K R1 T1 H1 ∧ EnvOk X.K R1 H1 σ env ∧ Rep X.K R1 H1 x v) I ⟨R, T, env, x, T1, st, en, e1, fun R1 H1 v l1 s1 r1 => ⟨R1, l1, s1, en.mono l1, r1⟩⟩) fun u s1 hh => ?_)
  obtain ⟨v, H1, I1, ru, R1, l1, st1, en1, r1⟩ := hh
  obtain ⟨a, rfl⟩ := methOf_ref e3 r1
  obtain rfl : u = Value.ref a := ru
  have ra : rdA X.K (evalEs P call es) σ H1 (fun vs H2 => ∃ R2, Le R H R2 H2 ∧ StOk X.K R2 T2 H2 ∧ Rep X.K R2 H2 x (.ref a) ∧ Reps X.K R2 H2 ds vs) :=
    ⟨R1, T1, env, ds, T2, st1, en1, e2, fun R2 H2 vs l2 s2 r2 => ⟨R2, l1.trans l2, s2, Rep.mono l2 _ _ r1, r2⟩⟩
  rcases args_st hc ra with ⟨z, _⟩ | ⟨y, ys, rfl, hst⟩
  · exact absurd z hne
  · have hpl' : (backTo cp (starEach ys X.env)).any (·.1) = false := by
      rw [hst] at hpl
      exact hpl
    refine StX.callO_with (thn (pa.run cp pins s1 σ H1 _ I1 ra) fun us s2 hh => ?_) hst hpl'
    obtain ⟨vs, H2, I2, r2, R2, l2, st2, rx2, rs2⟩ := hh
    obtain ⟨rfl, a', dx, fs, cd, fn, z, q1, q2, q3, q4, q5, q6⟩ := methOf_at C st2 e3 rx2
    cases z
    obtain ⟨f, M1, M2, M3⟩ := run_methC C q4 q5 q6
    obtain ⟨od, J⟩ := inst_at I2 q1
    refine ⟨⟨_, _, _, J, rfl⟩, wpAny_call (PySem.W.kco_code I2.kIn J rfl M1.at_ M1.fn M2 ?_)⟩
    exact M3 X.A pins σ H2 s2 (V.ref a :: vs) (Value.ref a :: us) Q C.hr rfl I2 (.cons rfl r2) ⟨R2, _, _, d, T', st2, Reps.cons rx2 rs2, e4, po.later l2⟩
/-! ### len(o) -/
def rdCl1 (K : PySem.W.Frag) (g : D → M D) : List V → Hp → VK → Prop := fun vs H Q => ∃ v, vs = [v] ∧ rdUn K g v H Q
theorem rd_cl1 {K : PySem.W.Frag} {ea : Env → M D} {g : D → M D} {σ : L2.St} {H : Hp} {Q : VK} (h : rdE K (fun env => do let x ← ea env; g x) σ H Q) : tCB (rdCl1 K g) (tCons (rdE K ea) tNil) σ H Q := by
  obtain ⟨R, T, env, d, T', st, en, e, po⟩ := h
  refine rd_then (f := fun env x => g x) st en e fun x T1 R1 H1 v e1 l1 s1 en1 r1 => ?_
  exact ⟨v, rfl, R1, T1, x, d, T', s1, r1, e1, po.later l1⟩
theorem cl_lenO (C : CxOk P call k N sc X) : CallR X (.builtin "len") (rdCl1 X.K (lenOD P call)) := by
  intro pins s σ H vs us Q I r h
  obtain ⟨v, rfl, R, T, x, d, T', st, rx, e, po⟩ := h
  have e : lenOD P call x T = .ok d T' := e
  unfold lenOD at e
  obtain ⟨g, T1, e1, f1⟩ := bind_ok e
  obtain ⟨rfl, a, dx, fs, cd, fn, rfl, q1, q2, q3, q4, q5, q6⟩ := methOf_at C st e1 rx
  obtain ⟨n, T3, e3, f3⟩ := bind_ok f1
  cases n <;> first | (cases f3; done) | skip
  rename_i n
  obtain ⟨hb, rfl, rfl⟩ := okIf_ok f3
  simp only [Bool.and_eq_true, decide_eq_true_eq] at hb
  obtain ⟨f, M1, M2, M3⟩ := run_meth C q4 q5 q6
  cases r with
  | cons rv r =>
    cases r
    cases rv
    obtain ⟨od, J⟩ := inst_at I q1
    obtain ⟨m, hF⟩ := I.fr
    refine PySem.W.len_K hF I.ok.mod.kin J M1.at_ M1.fn (wpAny_mono (M3 X.A.in1 pins σ H s [V.ref a] [.ref a] (fun w H' => w = .int n ∧ Q (.int n) H') C.room.in1 rfl I (.cons rfl .nil) ⟨R, _, [x], .int n, T3, st, Reps.one rx, callF_of C q4 e3, fun R' H' w l s' r' => ⟨r', po R' H' _ l s' rfl⟩⟩) (fun w s' hw => ?_) fun _ _ z => z)
    obtain ⟨z, H', I', rz, rfl, q⟩ := hw
    obtain ⟨t, rfl⟩ := rz
    exact ⟨hb, .int n, H', I'.tok _, ⟨_, rfl⟩, q⟩
/-! ### o[i] -/
theorem sub_own {slice : Expr} (h : noSlice slice = true) (x i : Value) : subscripted slice true x i = runValue (.builtin "lifetime.subscript" ⟨[x, i], []⟩) := by
  cases slice <;> first | (cases h; done) | (with_unfolding_all rfl)
theorem idxO_pe (C : CxOk P call k N sc X) {ea ei : Env → M D} {a b : Expr} {pos : Pos} (hs : noSlice b = true) (ha : PE X a (rdE X.K ea)) (hb : PE X b (rdE X.K ei)) : PE X (.Subscript a b pos) (rdE X.K fun env => do
      let x ← ea env
      let y ← ei env
      idxOD P call x y) := by
  refine ⟨fun pins s σ H Q I q => ?_⟩
  refine PyProof.Rows.Subscript_ (binT ha hb I (rd_op (g := idxOD P call) q) fun v u s2 vx vy H2 I2 rv ru qq => ?_)
  obtain ⟨R, T, x, y, d, T', st, rx, ry, e, po⟩ := qq
  have e : idxOD P call x y T = .ok d T' := e
  unfold idxOD at e
  obtain ⟨g, T1, e1, e3⟩ := bind_ok e
  obtain ⟨rfl, a, dx, fs, cd, fn, rfl, q1, q2, q3, q4, q5, q6⟩ := methOf_at C st e1 rx
  obtain ⟨f, M1, M2, M3⟩ := run_meth C q4 q5 q6
  obtain rfl : v = Value.ref a := rv
  obtain ⟨od, J⟩ := inst_at I2 q1
  obtain ⟨m, hF⟩ := I2.fr
  exact PySem.W.sub_K hF I2.ok.mod.kin J M1.at_ M2 M1.fn (M3 X.A.in1 pins σ H2 s2 [V.ref a, vy] [.ref a, u] Q C.room.in1 rfl I2 (.cons rfl (.cons ru .nil)) (two_ok C q4 st rx ry e3 po)) (sub_own hs _ _)
/-! ### displays with stars -/
theorem rd_star {K : PySem.W.Frag} {ea : Env → M D} {es : Env → M (List D)} {σ : L2.St} {H : Hp} {Q : List V → Hp → Prop} (h : rdA K (fun env => do let x ← ea env; let xs ← seqD x; let ys ← es env; pure (xs ++ ys)) σ H Q) : StX.tStar K (rdE K ea) (rdA K es) σ H Q := by
  obtain ⟨R, T, env, d, T', st, en, e, po⟩ := h
  refine rd_then (f := fun env x => do let xs ← seqD x; let ys ← es env; pure (xs ++ ys)) st en e fun x T1 R1 H1 v e1 l1 s1 en1 r1 => ?_
  obtain ⟨xs, T2, e2, f2⟩ := bind_ok e1
  have e2 : seqD x T1 = .ok xs T2 := e2
  unfold seqD at e2
  split at e2
  · rename_i ys eq
    cases e2
    obtain ⟨a, vs, rfl, sq, rs⟩ := isSeq_at s1 eq r1
    refine ⟨a, vs, rfl, sq.symm, ?_⟩
    refine rdA_then (f := fun _ zs => (pure (xs ++ zs) : M (List D))) s1 en1 f2 fun zs T3 R3 H3 ws e3 l3 s3 en3 r3 => ?_
    obtain ⟨rfl, rfl⟩ := pure_ok e3
    exact po R3 H3 _ (l1.trans l3) s3 ((Reps.mono l3 _ _ rs).append r3)
  · cases e2
/-- a tuple that is locked as it is made -/
def tLab (t : TA) : TE := fun σ H Q => t σ H fun xs H1 => xs.length ≤ sizeLine ∧ ∀ p o, H1 p = none → o.dict = none → Q (.ref p) (upd H1 p (.frz o (.tup xs)))
theorem pe_lab {es : List Expr} {t : TA} {x1 : Nat} {pos : Pos} (h : PA X es t) : PE X (.Tuple es x1 pos) (tLab t) := by
  refine ⟨fun pins s σ H Q I hq => ?_⟩
  refine wpAny_Tuple_spliced (thn (h.run pos pins s σ H _ I hq) fun us s1 hh => ?_)
  obtain ⟨xs, H1, I1, r, z, q⟩ := hh
  refine ⟨by rw [← r.length]; exact z, ?_⟩
  have hf : H1 s1.heap.objs.size = none := I1.hok.fresh (Nat.le_refl _)
  have hg := Heap.get?_push_size s1.heap (o := { cls := .type "tuple", data := .seq us.toArray }) rfl
  refine ⟨.ref s1.heap.objs.size, upd H1 s1.heap.objs.size (.frz { cls := .type "tuple", data := .seq us.toArray } (.tup xs)), I1.laid (t' := s1.toks) (fun b u e => Heap.get?_push_of_some _ e) (Nat.le_refl _) ?_, rfl, q _ _ hf rfl⟩
  exact ⟨hg, z, us, r, ⟨_, hg, rfl, _, rfl⟩⟩
theorem Post.newLab {K : PySem.W.Frag} {R : Rho} {H : Hp} {T : Store} {ds : List D} {vs : List V} {Q : VK} (st : StOk K R T H) (po : Post K R H (.lab ds) T Q) (r : Reps K R H ds vs) (p : Addr) (o : Obj) (hp : H p = none) (ho : o.dict = none) : Q (.ref p) (upd H p (.frz o (.tup vs))) := by
  obtain ⟨l, s⟩ := st.newFz (o := .frz o (.tup vs)) hp
  exact po _ _ _ l s ⟨p, vs, rfl, ⟨.inr rfl, o, upd_same, ho⟩, Reps.mono l _ _ r⟩
theorem rd_lab {K : PySem.W.Frag} {ea : Env → M (List D)} {σ : L2.St} {H : Hp} {Q : VK} (h : rdE K (fun env => do let ds ← ea env; fun T => okIf (lim ds.length) (.lab ds) T) σ H Q) : tLab (rdA K ea) σ H Q := by
  obtain ⟨R, T, env, d, T', st, en, e, po⟩ := h
  refine rdA_then (f := fun _ ds => fun T => okIf (lim ds.length) (D.lab ds) T) st en e fun x T1 R1 H1 v e1 l1 s1 en1 r1 => ?_
  obtain ⟨hl, rfl, rfl⟩ := okIf_ok e1
  exact ⟨by rw [r1.length]; exact lim_le hl, fun p o hp ho => Post.newLab s1 (po.later l1) r1 p o hp ho⟩
/-- tuple(x) -/
theorem cl_labT : CallR X (.type "tuple") (rdCl1 X.K labTD) := by
  intro pins s σ H vs us Q I r h
  obtain ⟨v, rfl, R, T, x, d, T', st, rx, e, po⟩ := h
  have e : labTD x T = .ok d T' := e
  have same : ∀ a ws, v = .ref a → SqT X.K H a ws → d = x → T = T' → wpAny (model X.prog X.w) X.A (PySem.call (.type "tuple") us) (EP X pins σ Q) X.xe s := by
    rintro a ws rfl sq rfl rfl
    exact call_tupleT pins s σ H _ us Q I r ⟨a, ws, rfl, sq, Post.now st po rx⟩
  have lists : ∀ xs, isList T x = some xs → Res.ok (D.lab xs) T = .ok d T' → wpAny (model X.prog X.w) X.A (PySem.call (.type "tuple") us) (EP X pins σ Q) X.xe s := by
    intro xs ex z
    cases z
    obtain ⟨a, ws, rfl, q, rs⟩ := isList_at st ex rx
    cases r with
    | cons rv r =>
      cases r
      cases rv
      obtain ⟨its, r', pl, hz⟩ := I.list (SqL.of q)
      have hlen := r'.length
      refine call_tuple_list pl.isList (fun h' kp => ?_) (by simp only [List.size_toArray] <;> omega)
      have I1 : Inv X pins σ H { s with heap := h' } := I.kept (t' := s.toks) kp
      have hg := Heap.get?_push_size h' (o := { cls := .type "tuple", data := .seq its.toArray }) rfl
      have I2 : Inv X pins σ (upd H h'.objs.size (.frz { cls := .type "tuple", data := .seq its.toArray } (.tup ws))) { s with heap := h'.push { cls := .type "tuple", data := .seq its.toArray } } :=
        I1.laid (t' := s.toks) (fun b o e => Heap.get?_push_of_some _ e) (Nat.le_refl _) ⟨hg, hz, its, r', ⟨_, hg, rfl, _, rfl⟩⟩
      exact ⟨.ref h'.objs.size, _, I2, rfl, Post.newLab st po rs _ _ (I1.hok.fresh (Nat.le_refl _)) rfl⟩
  have gen : (match isList T x with
    | some xs => Res.ok (D.lab xs) T
    | none => .bad) = .ok d T' → wpAny (model X.prog X.w) X.A (PySem.call (.type "tuple") us) (EP X pins σ Q) X.xe s := by
    intro z
    split at z
    · rename_i xs ex
      exact lists xs ex z
    · cases z
  cases x with
  | lab xs =>
    cases e
    obtain ⟨a, ws, hv, q, _⟩ := id rx
    exact same a ws hv q.sqT rfl rfl
  | ext t xs =>
    cases t with
    | true =>
      cases e
      obtain ⟨a, ws, hv, sq, _⟩ := isTupS_at (T := T) (x := .ext true xs) rfl rx
      exact same a ws hv sq rfl rfl
    | false => cases e
  | lst xs => exact gen e
  | ref n => exact gen e
  | _ => cases e
/-! ### t.index(x) -/
theorem tindex_pe {ea : Env → M D} {es : List E} {o : Expr} {ap cp : Pos} {xs : List Expr} (hb : noCall0 o = true) (hl : (ap.endLine == cp.line) = true) (hn : xs.length < 29) (hne : xs ≠ []) (he : PE X o (rdE X.K ea)) (hc : chkEs P N sc es xs = true) (pa : PA X xs (rdA X.K (evalEs P call es))) :
    PE X (.Call (.Attribute o "index" ap) xs [] cp) (rdE X.K fun env => do
      let x ← ea env
      let _ ← (fun T => okIf (tyOk .tindex x T) () T : M Unit)
      let ds ← evalEs P call es env
      mthD .tindex x ds) := by
  refine ⟨fun pins s σ H Q I q => ?_⟩
  obtain ⟨hpl, hal⟩ := chkEs_star hc cp X.env
  obtain ⟨R, T, env, d, T', st, en, e, po⟩ := q
  obtain ⟨x, T1, e1, f1⟩ := bind_ok e
  obtain ⟨_, T2, e2, f2⟩ := bind_ok f1
  obtain ⟨ht, _, rfl⟩ := okIf_ok e2
  cases x <;> first | (cases ht; done) | skip
  rename_i ls
  have few : ((backTo cp (starEach xs X.env)).all (fun x => !x.1) && (backToKw cp (keywordEach [] X.env)).all (fun x => x.1.isSome)
      && decide (xs.length + ([] : List Keyword).length + (if ([] : List Keyword).isEmpty then 0 else 1) < 30)) = true := by
    rw [hal]
    have : xs.length + ([] : List Keyword).length + (if ([] : List Keyword).isEmpty then 0 else 1) < 30 := by
      simp only [List.length_nil, List.isEmpty_nil] at hn ⊢
      simp
      omega
    rw [decide_eq_true this]
    rfl
  refine wpAny_Call_method_late (att_base hb _ _) few hl rfl (thn (he.run pins s σ H (fun v H1 => ∃ R1, Le R H R1 H1 ∧ StOk X.K R1 T1 H1 ∧ EnvOk X.K R1 H1 σ env ∧ Rep X.K R1 H1 (.lab ls) v) I ⟨R, T, env, _, T1, st, en, e1, fun R1 H1 v l1 s1 r1 => ⟨R1, l1, s1, en.mono l1, r1⟩⟩) fun v s1 hh => ?_)
  obtain ⟨vx, H1, I1, r1, R1, l1, st1, en1, rx⟩ := hh
  obtain ⟨a, ws, rfl, ⟨_, ob, hob, hdn⟩, _⟩ := id rx
  obtain rfl : v = Value.ref a := r1
  obtain ⟨hget, _, its, _, o', ho', hcl, _⟩ := (show ObjOk X.prog X.w H1 s1.heap a (.frz ob (.tup ws)) from I1.hok a _ hob)
  have eo : o' = ob := Option.some.inj (ho'.symm.trans hget)
  subst eo
  refine ⟨"tuple", "tuple.index", PySem.F.plainAttrs_tuple, PySem.F.slot_tuple_index, PySem.F.type_tuple_index, ⟨o', hget, hcl⟩, fun b hb => ?_, ?_⟩
  · cases hb
    exact ⟨o', hget, hdn⟩
  · have ra : rdA X.K (evalEs P call es) σ H1 (fun vs H2 => rdMt X.K (mthD .tindex) (.ref a) vs H2 Q) := by
      refine rdA_then (f := fun _ ds => mthD .tindex (.lab ls) ds) st1 en1 f2 fun ds T3 R3 H3 vs e4 l3 s3 en3 r3 => ?_
      exact ⟨R3, T3, _, ds, d, T', s3, Rep.mono l3 _ _ rx, r3, e4, po.later (l1.trans l3)⟩
    rcases args_st hc ra with ⟨z, _⟩ | ⟨y, ys, rfl, hst⟩
    · exact absurd z hne
    · have hA := pa.run cp pins s1 σ H1 _ I1 ra
      rw [hst] at hA hpl ⊢
      refine Calls.callWith_builtin hpl (Calls.evalArgs_plain ?_)
      exact thn hA fun us s2 hh => by
        obtain ⟨vs, H2, I2, r2, q2⟩ := hh
        exact mt_tindex_ok pins s2 σ H2 (V.ref a) vs _ us Q I2 rfl r2 q2
end
end Pz

set_option Elab.async false
set_option linter.all false
set_option maxRecDepth 100000
set_option maxHeartbeats 4000000
/-! C8: min, max of a tuple; tuple of a text; sorted(d), list(d.items()) with tuples as keys. -/
namespace PzS
open PySem PySem.Spec PySem.W PyProof.Rows L2 Pz
/-- sorted(x) of one thing at most -/
theorem sorted_few {P : Program} {w : World} {A : Around} {E : Value → Shared → Prop} {s : Shared} {x : Value} {C : List Value → Shared → Prop} {Q : Value → Shared → Prop} (hcol : ∀ (E' : Value → Shared → Prop), wpAny (model P w) A.in1 (collect x) C E' s)
    (h : ∀ vs s1, C vs s1 → vs.length ≤ 1 ∧ ∀ (h' : Heap) (p : Addr) (c : Nat), (∀ b o, s1.heap.get? b = some o → h'.get? b = some o) → s1.heap.objs.size ≤ p → h'.get? p = some (seqObj "list" vs.toArray c) → Q (.ref p) { s1 with heap := h' }) :
    wpAny (model P w) A (call (.builtin "sorted") [x]) Q E s := by
  refine Calls.call_function_entry kind_sorted plain_sorted entry_sorted (args_sorted1 _) ?_
  unfold Builtin.«sorted»
  refine wpAny_bind (m := checkCount "sorted" 1 1 _) (wpAny_pure (wpAny_bind (wpAny_mono (hcol _) (fun vs s1 hC => ?_) fun _ _ z => z)))
  obtain ⟨h1, fin⟩ := h vs s1 hC
  have hL : vs.length ≤ sizeLine := Nat.le_trans h1 (by decide +kernel)
  refine wpAny_bind (wpAny_newList ?_ hL)
  have hoL : (s1.heap.push (seqObj "list" vs.toArray 0)).get? s1.heap.objs.size = some (seqObj "list" vs.toArray 0) := Heap.get?_push_size _ rfl
  refine wpAny_bind (wpAny_holding (wpAny_call_entry slot_list_sort ⟨_, hoL, rfl⟩ entry_list_sort (Srt.list_sort_any (s := { s1 with heap := s1.heap.push (seqObj "list" vs.toArray 0) }) hoL hL (fun q => absurd q (by omega)) fun out hp => ⟨_, rfl, ?_⟩) (args_list_sort _)))
  have eo : out = vs := by
    match vs, h1, hp with
    | [], _, hp => exact List.perm_nil.mp hp
    | [v], _, hp => exact List.perm_singleton.mp hp
  subst eo
  obtain ⟨c, hc⟩ := sortedHeap_at (vs := out) (out := out.toArray) hoL
  refine wpAny_pure ⟨_, rfl, fin _ s1.heap.objs.size c (fun b u e => ?_) (Nat.le_refl _) hc⟩
  have q := Heap.lt_size e
  rw [sortedHeap_old (Nat.ne_of_lt q) (by rw [size_push']; exact Nat.lt_succ_of_lt q)]
  exact Heap.get?_push_of_some _ e
end PzS
namespace Pz
open PySem PySem.Spec L2
section
variable {X : Cx}
theorem minI_fold : ∀ (ns : List Int) (n : Int), ns.foldl min n = minI n ns
  | [], n => rfl
  | m :: ns, n => by
    rw [List.foldl_cons, minI, minI_fold ns]
    congr 1
    by_cases h : m < n
    · rw [if_pos h, Int.min_def, if_neg (by omega)]
    · rw [if_neg h, Int.min_def, if_pos (by omega)]
theorem maxI_fold : ∀ (ns : List Int) (n : Int), ns.foldl max n = maxI n ns
  | [], n => rfl
  | m :: ns, n => by
    rw [List.foldl_cons, maxI, maxI_fold ns]
    congr 1
    by_cases h : n < m
    · rw [if_pos h, Int.max_def, if_pos (by omega)]
    · rw [if_neg h, Int.max_def]
      by_cases h2 : n ≤ m
      · rw [if_pos h2]; omega
      · rw [if_neg h2]
theorem reads_ints {h : Heap} : ∀ {is : List Int} {us : List Value}, Vals (is.map V.int) us → ∃ as, ReadsAll h us (is.map PyData.int) as
  | [], us, r => by cases r; exact ⟨_, .nil⟩
  | i :: is, us, r => by
    rw [List.map_cons] at r
    cases r with
    | cons r1 r2 =>
      obtain ⟨t, rfl⟩ := r1
      obtain ⟨as, h2⟩ := reads_ints (h := h) r2
      exact ⟨_, .cons (.int _ _) h2⟩
theorem cl_minT (hc : X.calm = true) (hu : X.A.units + 64 < cLine) : CallR X (.builtin "min") (rdCl1 X.K minTD) := by
  intro pins s σ H vs us Q I r h
  obtain ⟨v, rfl, R, T, x, d, T', st, rx, e, po⟩ := h
  replace e : minTD x T = .ok d T' := e
  unfold minTD at e
  split at e
  · rename_i xs
    unfold withI at e
    split at e
    · rename_i is ei
      cases is with
      | nil => cases e
      | cons b bs =>
        cases e
        obtain ⟨a, ws, rfl, t, rs⟩ := id rx
        have ew := Reps.intsOf ei rs
        obtain ⟨its, rv, pl, hz⟩ := I.tuple t.sqT
        rw [ew] at rv
        obtain ⟨as, ra⟩ := reads_ints (h := s.heap) rv
        rw [Vals.ref1 r]
        refine PySem.W.min_tuple_data (x := PyData.int b) (xs := bs.map PyData.int) (I.ok.hd hc) pl (by simpa using ra) (PySem.W.alikeAll_datum (b :: bs)) ?_ fun i w h' tk bs' hi hr hk => ?_
        · have := PySem.W.depthAll_map (b :: bs)
          have z : PySem.W.Datum.depth Int = 0 := rfl
          rw [z] at this
          have z2 : PyData.depthAll (PyData.int b :: bs.map PyData.int) ≤ 0 := this
          omega
        · have hr2 : Reads h' w (.int (minI b bs)) bs' := by
            have := PySem.W.minD_ints b bs
            rw [minI_fold] at this
            rw [← this]
            exact hr
          cases hr2
          exact ⟨.int (minI b bs), H, I.kept (t' := tk) hk, ⟨_, rfl⟩, Post.now st po rfl⟩
    · cases e
  · cases e
theorem cl_maxT (hc : X.calm = true) (hu : X.A.units + 64 < cLine) : CallR X (.builtin "max") (rdCl1 X.K maxTD) := by
  intro pins s σ H vs us Q I r h
  obtain ⟨v, rfl, R, T, x, d, T', st, rx, e, po⟩ := h
  replace e : maxTD x T = .ok d T' := e
  unfold maxTD at e
  split at e
  · rename_i xs
    unfold withI at e
    split at e
    · rename_i is ei
      cases is with
      | nil => cases e
      | cons b bs =>
        cases e
        obtain ⟨a, ws, rfl, t, rs⟩ := id rx
        have ew := Reps.intsOf ei rs
        obtain ⟨its, rv, pl, hz⟩ := I.tuple t.sqT
        rw [ew] at rv
        obtain ⟨as, ra⟩ := reads_ints (h := s.heap) rv
        rw [Vals.ref1 r]
        refine PySem.W.max_tuple_data (x := PyData.int b) (xs := bs.map PyData.int) (I.ok.hd hc) pl (by simpa using ra) (PySem.W.alikeAll_datum (b :: bs)) ?_ fun i w h' tk bs' hi hr hk => ?_
        · have := PySem.W.depthAll_map (b :: bs)
          have z : PySem.W.Datum.depth Int = 0 := rfl
          rw [z] at this
          have z2 : PyData.depthAll (PyData.int b :: bs.map PyData.int) ≤ 0 := this
          omega
        · have hr2 : Reads h' w (.int (maxI b bs)) bs' := by
            have := PySem.W.maxD_ints b bs
            rw [maxI_fold] at this
            rw [← this]
            exact hr
          cases hr2
          exact ⟨.int (maxI b bs), H, I.kept (t' := tk) hk, ⟨_, rfl⟩, Post.now st po rfl⟩
    · cases e
  · cases e
/-! ### tuple("..") -/
theorem cl_tupStr (hc : X.calm = true) : CallR X (.type "tuple") (rdCl1 X.K tupStrD) := by
  intro pins s σ H vs us Q I r h
  obtain ⟨v, rfl, R, T, x, d, T', st, rx, e, po⟩ := h
  replace e : tupStrD x T = .ok d T' := e
  unfold tupStrD at e
  split at e
  · rename_i z
    obtain ⟨hl, rfl, rfl⟩ := okIf_ok e
    cases rx
    cases r with
    | cons rv r =>
      cases r
      obtain ⟨t, rfl⟩ := rv
      have hsz : z.cps.size ≤ sizeLine := lim_le hl
      refine PySem.call_tuple_str (I.ok.hd hc) z t (fun h' tk acc hk hacc => ?_) hsz
      have I1 : Inv X pins σ H { s with heap := h', toks := tk } := I.kept (t' := tk) hk
      have rv : Vals (z.cps.toList.map fun c => V.str ⟨#[c]⟩) acc.toList := by
        refine vals_of_at ?_ fun j x w h1 h2 => ?_
        · rw [List.length_map, Array.length_toList, Array.length_toList, hacc.1]
        · obtain ⟨c, u, hcc, rfl⟩ := hacc.2 j w (by rw [← Array.getElem?_toList]; exact h2)
          rw [List.getElem?_map, Array.getElem?_toList, hcc] at h1
          cases h1
          exact ⟨u, rfl⟩
      have hg := Heap.get?_push_size h' (o := { cls := .type "tuple", data := .seq acc }) rfl
      have rd : Reps X.K R H (z.cps.toList.map fun c => D.str ⟨#[c]⟩) (z.cps.toList.map fun c => V.str ⟨#[c]⟩) := by
        generalize z.cps.toList = l
        induction l with
        | nil => exact rfl
        | cons c l ih => exact Reps.cons rfl ih
      have I2 : Inv X pins σ (upd H h'.objs.size (.frz { cls := .type "tuple", data := .seq acc } (.tup (z.cps.toList.map fun c => V.str ⟨#[c]⟩)))) { s with heap := h'.push { cls := .type "tuple", data := .seq acc }, toks := tk } :=
        I1.laid (t' := tk) (fun b o e => Heap.get?_push_of_some _ e) (Nat.le_refl _) ⟨hg, by rw [List.length_map, Array.length_toList]; exact hsz, acc.toList, rv, ⟨_, hg, rfl, _, by rw [Array.toArray_toList]⟩⟩
      exact ⟨.ref h'.objs.size, _, I2, rfl, Post.newLab st po rd _ _ (I1.hok.fresh (Nat.le_refl _)) rfl⟩
  · cases e
/-! ### dicts with tuples as keys -/
theorem keyK_rep {K : PySem.W.Frag} {R : Rho} {H : Hp} {d : D} {k : Key} (h : keyK d = some k) : Rep K R H d (kV k) := by
  cases d <;> cases h <;> rfl
theorem keyKs_rep {K : PySem.W.Frag} {R : Rho} {H : Hp} : ∀ {ds : List D} {ks : List Key}, ds.mapM keyK = some ks → Reps K R H ds (ks.map kV)
  | [], ks, h => by
    simp at h
    subst h
    exact rfl
  | d :: ds, ks, h => by
    simp only [List.mapM_cons, Option.bind_eq_bind, Option.pure_def] at h
    cases e1 : keyK d with
    | none => rw [e1] at h; cases h
    | some k =>
      cases e2 : ds.mapM keyK with
      | none => rw [e1, e2] at h; cases h
      | some ks' =>
        rw [e1, e2] at h
        cases h
        exact Reps.cons (keyK_rep e1) (keyKs_rep e2)
/-- a key's tuple -/
theorem keyT_rep {K : PySem.W.Frag} {R : Rho} {H : Hp} {d : D} {ks : List Key} {b : Addr} (h : keyT d = some ks) (hf : R.fz b) (hb : H b = some (.tup (ks.map kV))) : Rep K R H d (.ref b) := by
  cases d <;> first | (cases h; done) | skip
  rename_i ds
  exact ⟨b, _, rfl, ⟨hf, hb⟩, keyKs_rep h⟩
theorem keys_each {K : PySem.W.Frag} {R : Rho} {H : Hp} : ∀ {kvs : List (D × D)} {ks : List (List Key × V)} {bs : List Addr}, PairsT K R H kvs ks → IsKeys H ks bs → (∀ b ∈ bs, R.fz b) → Reps K R H (kvs.map (·.1)) (bs.map V.ref)
  | [], ks, bs, h, q, _ => by
    cases h
    cases q
    exact rfl
  | (k, d) :: r, ks, bs, h, q, f => by
    obtain ⟨k', v, r', rfl, e1, h1, h2⟩ := h
    cases q with
    | cons q1 q2 => exact Reps.cons (keyT_rep e1 (f _ List.mem_cons_self) q1) (keys_each h2 q2 fun b hb => f b (List.mem_cons_of_mem _ hb))
theorem isKeys_at {H : Hp} : ∀ {ks : List (List Key × V)} {bs : List Addr}, IsKeys H ks bs → ∀ b ∈ bs, ∃ xs, H b = some (.tup xs)
  | [], _, q, b, hb => by cases q; cases hb
  | k :: ks, _, q, b, hb => by
    cases q with
    | cons q1 q2 =>
      rcases List.mem_cons.mp hb with rfl | hb
      · exact ⟨_, q1⟩
      · exact isKeys_at q2 b hb
theorem sortD_few : ∀ {l : List D}, l.length ≤ 1 → sortD l = l
  | [], _ => rfl
  | [_], _ => rfl
  | _ :: _ :: _, h => absurd h (by simp)
theorem one_le_line : 1 ≤ sizeLine := by decide +kernel
theorem cl_sortedK (hc : X.calm = true) (hu : X.A.units + 64 < cLine) : CallR X (.builtin "sorted") (rdCl1 X.K sortedKD) := by
  intro pins s σ H vs us Q I r h
  obtain ⟨v, rfl, R0, T, x, d, T', st0, rx, e, po0⟩ := h
  replace e : sortedKD x T = .ok d T' := e
  unfold sortedKD at e
  split at e
  · rename_i n
    split at e
    · rename_i kvs e1
      obtain ⟨ho, rfl, rfl⟩ := okIf_ok e
      obtain ⟨a, rfl, c⟩ := id rx
      obtain ⟨⟨ks, q, pr0⟩, _⟩ := st0.cell n a _ c e1 rfl
      obtain ⟨z, hs, ls, pr1, o, es, ep, hob, hx, hdt, he, hn⟩ := (show ObjOk X.prog X.w H s.heap a (.dT ks) from I.hok a _ q)
      have ik : IsKeys H ks (ls.map fun x => x.2.1) := isKeys_of pr1
      obtain ⟨lf, st⟩ := st0.moreFz (fun b => b ∈ ls.map fun x => x.2.1) (isKeys_at ik)
      have po := po0.later lf
      have rs := keys_each (pr0.mono lf) ik (fun b hb => Or.inr hb)
      have l1 : es.size = ls.length := size_of_entries he
      have l2 : ks.length = ls.length := Paired.length pr1
      have l3 : kvs.length = ks.length := by
        have := rs.length
        rw [List.length_map, List.length_map, List.length_map] at this
        omega
      rw [Vals.ref1 r]
      have col : ∀ E', wpAny (model X.prog X.w) X.A.in1 (collect (.ref a)) (fun vs' s' => vs' = (ls.map fun x => x.2.1).map Value.ref ∧ ∃ h' tk, s' = { s with heap := h', toks := tk } ∧ ∀ b o, s.heap.get? b = some o → h'.get? b = some o) E' s := by
        intro E'
        refine PySem.W.kdu_collect (kdl_raw hs hx hdt) (I.ok.hd hc) hob (by omega) fun h' tk acc kp it => ⟨?_, h', tk, rfl, kp⟩
        have hl : acc.toList.length = ls.length := by rw [Array.length_toList, it.1]; exact l1
        apply List.ext_getElem?
        intro j
        rw [List.getElem?_map, List.getElem?_map]
        cases hj : acc.toList[j]? with
        | none =>
          have h1 := List.getElem?_eq_none_iff.mp hj
          rw [List.getElem?_eq_none (by omega)]
          rfl
        | some v =>
          obtain ⟨en, hen, hv⟩ := it.2 j v (by rw [← Array.getElem?_toList]; exact hj)
          have qe := entry_at he j
          rw [hen] at qe
          cases hb : ls[j]? with
          | none =>
            rw [hb] at qe
            exact nomatch (show some en = none from qe)
          | some b =>
            rw [hb] at qe
            have e2 : en = entryOfKey (tupleKind (mixKind X.prog X.w)) b := Option.some.inj qe
            rw [hv, e2]
            rfl
      rw [Bool.or_eq_true] at ho
      rcases ho with ho | ho
      · obtain ⟨al, so, dp⟩ := okSort_ok ho
        refine PzS.sorted_by col ?_
        rintro vs' s' ⟨rfl, h1, tk1, rfl, keep⟩
        have rv : Vals ((ls.map fun x => x.2.1).map V.ref) ((ls.map fun x => x.2.1).map Value.ref) := vals_refs _
        refine ⟨kvs.map (·.1), StandsFor X.K _ H, each_reps rs rv, each_keep keep (each_reads I (fun d hd => al d hd d hd) rs rv), al, so, by rw [List.length_map]; omega, fun d hd => ?_, fun h' p c out k hp hg eo => ?_⟩
        · have := dp d hd
          omega
        · obtain ⟨ys, r1, r2⟩ := reps_each eo
          have I1 : Inv X pins σ H { s with heap := h1, toks := tk1 } := I.kept (t' := tk1) keep
          have hlen : ys.length ≤ sizeLine := by
            rw [r1.length, (show (sortD (kvs.map (·.1))).length = (kvs.map (·.1)).length by rw [sortD_eq]; exact (sortG_perm _ _).length_eq), List.length_map]
            omega
          exact ⟨.ref p, upd H p (.lst ys), I1.laid (t' := tk1) (fun b o e => k b o e) hp ⟨hlen, out, c, r2, hg⟩, rfl, Post.newLst st po r1 p (I1.hok.fresh hp)⟩
      · have hk := Nat.le_of_ble_eq_true ho
        have es : sortD (kvs.map (·.1)) = kvs.map (·.1) := sortD_few (by rw [List.length_map]; exact hk)
        refine PzS.sorted_few col ?_
        rintro vs' s' ⟨rfl, h1, tk1, rfl, keep⟩
        have rv : Vals ((ls.map fun x => x.2.1).map V.ref) ((ls.map fun x => x.2.1).map Value.ref) := vals_refs _
        refine ⟨by rw [List.length_map, List.length_map]; omega, fun h' p c k hp hg => ?_⟩
        have I1 : Inv X pins σ H { s with heap := h1, toks := tk1 } := I.kept (t' := tk1) keep
        have hlen : ((ls.map fun x => x.2.1).map V.ref).length ≤ sizeLine := by
          rw [List.length_map, List.length_map]
          exact Nat.le_trans (show ls.length ≤ 1 by omega) one_le_line
        rw [es] at po
        exact ⟨.ref p, upd H p (.lst _), I1.laid (t' := tk1) (fun b o e => k b o e) hp ⟨hlen, _, c, rv, hg⟩, rfl, Post.newLst st po rs p (I1.hok.fresh hp)⟩
    · cases e
  · cases e
end
end Pz

set_option Elab.async false
set_option linter.all false
set_option maxRecDepth 100000
set_option maxHeartbeats 4000000
/-! C9: list(d.items()). -/
namespace Pz
open PySem PySem.Spec L2
section
variable {X : Cx}
/-- new things are frozen -/
theorem StOk.grow {K : PySem.W.Frag} {R : Rho} {T : Store} {H H2 : Hp} (s : StOk K R T H) (g : ∀ b o, H b = some o → H2 b = some o) (F : Addr → Prop) (hF : ∀ a, F a → H a = none ∧ ∃ o, H2 a = some o) :
    Le R H { R with fz := fun b => R.fz b ∨ F b } H2 ∧ StOk K { R with fz := fun b => R.fz b ∨ F b } T H2 := by
  have old : ∀ a, (∃ o, H a = some o) → H2 a = H a := fun a ⟨o, e⟩ => by rw [e]; exact g a o e
  have l : Le R H { R with fz := fun b => R.fz b ∨ F b } H2 := ⟨⟨[], by simp⟩, fun b h => ⟨.inl h, old b (s.fz b h)⟩, rfl, fun b h => old b (s.kpH h)⟩
  refine ⟨l, ⟨s.len, fun n a c e1 e2 al => ?_, s.inj, fun a h => ?_, fun a h => ?_⟩⟩
  · obtain ⟨c1, c2, c3⟩ := s.cell n a c e1 e2 al
    refine ⟨c1.mono l (old a (c1.tracked al)), fun z => z.elim c2 fun f => ?_, c3⟩
    obtain ⟨o, e⟩ := c1.tracked al
    rw [(hF a f).1] at e
    cases e
  · rcases h with h | h
    · obtain ⟨o, e⟩ := s.fz a h
      exact ⟨o, g a o e⟩
    · exact (hF a h).2
  · obtain ⟨k1, u, e, nt⟩ := s.kp a h
    refine ⟨fun z => z.elim k1 fun f => ?_, u, g a u e, nt⟩
    rw [(hF a f).1] at e
    cases e
theorem items_reps {K : PySem.W.Frag} {R : Rho} {H : Hp} {p : Program} {w : World} : ∀ {kvs : List (D × D)} {ks : List (List Key × V)} {ls : List (List Key × Addr × Value)} {as : List Addr}, PairsT K R H kvs ks → Paired (fun (p : List Key × V) (q : List Key × Addr × Value) => p.1 = q.1 ∧ H q.2.1 = some (.tup (p.1.map kV)) ∧ RelV p.2 q.2.2) ks ls →
    as.length = ls.length → (∀ x ∈ ls, R.fz x.2.1) → (∀ a ∈ as, R.fz a) → (∀ (j : Nat) a, as[j]? = some a → ∃ x y, ls[j]? = some x ∧ ks[j]? = some y ∧ H a = some (.tup [.ref x.2.1, y.2])) → Reps K R H (kvs.map fun q => D.tup [q.1, q.2]) (as.map V.ref)
  | [], ks, ls, as, h, q, hl, _, _, _ => by
    cases h
    cases q
    cases as with
    | nil => exact rfl
    | cons _ _ => cases hl
  | (k, d) :: r, ks, ls, as, h, q, hl, f1, f2, hj => by
    obtain ⟨k', v, r', rfl, e1, h1, h2⟩ := h
    cases q with
    | @cons _ x _ ls q1 q2 =>
      cases as with
      | nil => cases hl
      | cons a as =>
        obtain ⟨x', y', g1, g2, g3⟩ := hj 0 a rfl
        cases g1
        cases g2
        refine Reps.cons ⟨a, _, rfl, ⟨f2 a List.mem_cons_self, g3⟩, Reps.cons (keyT_rep e1 (f1 x List.mem_cons_self) q1.2.1) (Reps.one h1)⟩ ?_
        exact items_reps (p := p) (w := w) h2 q2 (by simpa using hl) (fun x hx => f1 x (List.mem_cons_of_mem _ hx)) (fun a ha => f2 a (List.mem_cons_of_mem _ ha)) fun j b hb => by
          obtain ⟨x, y, z1, z2, z3⟩ := hj (j + 1) b (by simpa using hb)
          exact ⟨x, y, by simpa using z1, by simpa using z2, z3⟩
theorem Paired.get' {α β : Type} {S : α → β → Prop} : ∀ {xs : List α} {ys : List β}, Paired S xs ys → ∀ {j : Nat} {y : β}, ys[j]? = some y → ∃ x, xs[j]? = some x ∧ S x y
  | _, _, .nil, j, y, h => by simp at h
  | _, _, .cons r rs, 0, y, h => by
    simp at h
    subst h
    exact ⟨_, rfl, r⟩
  | _, _, .cons r rs, j + 1, y, h => by
    obtain ⟨x, h1, h2⟩ := Paired.get' rs (j := j) (by simpa using h)
    exact ⟨x, by simpa using h1, h2⟩
theorem Paired.imp' {α β : Type} {S S' : α → β → Prop} (f : ∀ x y, S x y → S' x y) : ∀ {xs : List α} {ys : List β}, Paired S xs ys → Paired S' xs ys
  | _, _, .nil => .nil
  | _, _, .cons r rs => .cons (f _ _ r) (Paired.imp' f rs)
def rListIt (K : PySem.W.Frag) : List V → Hp → VK → Prop := fun vs H Q => ∃ (p a : Addr) (R : Rho) (T : Store) (n : Nat) (kvs : List (D × D)), vs = [.ref p] ∧ H p = some (DX.itemsO p a) ∧ StOk K R T H ∧ R.cell[n]? = some a ∧ T[n]? = some (.dic true kvs) ∧ Post K R H (.lst (kvs.map fun q => .tup [q.1, q.2])) T Q
theorem cl_items (hc : X.calm = true) : CallR X (.type "list") (rListIt X.K) := by
  intro pins s σ H vs us Q I r h
  obtain ⟨p, a, R, T, n, kvs, rfl, hp, st, hn, hT, po⟩ := h
  rw [Vals.ref1 r]
  have view : s.heap.IsItemsView p a := (show ObjOk X.prog X.w H s.heap p (DX.itemsO p a) from I.hok p _ hp).1
  obtain ⟨⟨ks, q, pr⟩, _⟩ := st.cell n a _ hn hT rfl
  obtain ⟨z, hs, ls, pr1, o, es, ep, hob, hx, hdt, he, hnd⟩ := (show ObjOk X.prog X.w H s.heap a (.dT ks) from I.hok a _ q)
  have l1 : es.size = ls.length := size_of_entries he
  have l2 : ks.length = ls.length := Paired.length pr1
  refine PySem.W.dil_call (es := es) (ep := ep) (I.ok.hd hc) view ⟨o, hob, hx, hdt⟩ (by omega) fun h' tk acc c as hk hL hla hG hacc => ?_
  have I1 : Inv X pins σ H { s with heap := h', toks := tk } := I.kept (t' := tk) hk
  have nd : as.Nodup := List.Pairwise.imp (fun h => Nat.ne_of_lt h) hG.rise
  have hLn : H s.heap.objs.size = none := I.hok.fresh (Nat.le_refl _)
  have I2 : Inv X pins σ (upd H s.heap.objs.size (.lst (as.map V.ref))) { s with heap := h', toks := tk } := I1.take (h' := h') (t' := tk) (fun b ob _ e => e) (I.fpOk (Nat.le_refl _) hLn) ⟨by rw [List.length_map]; omega, acc.toList, c, by rw [hacc]; exact vals_refs as, by rw [Array.toArray_toList]; exact hL⟩
  obtain ⟨H2, I3, g2, tu⟩ := DX.takeT (P := fun a vs => ∃ (j : Nat) (x : List Key × Addr × Value) (y : List Key × V), as[j]? = some a ∧ ls[j]? = some x ∧ ks[j]? = some y ∧ vs = [.ref x.2.1, y.2]) I as _ I2 nd fun b hb => by
    have hlt : s.heap.objs.size < b := hG.above b hb
    refine ⟨Nat.le_of_lt hlt, ?_, ?_⟩
    · rw [upd_ne (Nat.ne_of_gt hlt)]
      exact I.hok.fresh (Nat.le_of_lt hlt)
    · obtain ⟨j, hj⟩ := List.mem_iff_getElem?.mp hb
      obtain ⟨hjs, hg⟩ := hG.pairs j b hj
      have qe := entry_at he j
      rw [Array.getElem?_eq_getElem hjs] at qe
      cases hx1 : ls[j]? with
      | none =>
        have := List.getElem?_eq_none_iff.mp hx1
        omega
      | some x =>
        rw [hx1] at qe
        have e2 : es[j] = entryOfKey (tupleKind (mixKind X.prog X.w)) x := Option.some.inj qe
        obtain ⟨y, hy, rel⟩ := Paired.get' pr1 hx1
        refine ⟨[.ref x.2.1, y.2], ⟨j, x, y, hj, hx1, hy, rfl⟩, fun H3 => ⟨(by show 2 ≤ sizeLine; decide), [Value.ref x.2.1, x.2.2], .cons rfl (.cons rel.2.2 .nil), ⟨_, hg, rfl, 0, (by rw [e2]; rfl)⟩⟩⟩
  have gg : ∀ b o, H b = some o → H2 b = some o := fun b o e => g2 b o (by rw [upd_ne (ne_of_none e hLn)]; exact e)
  have hL2 : H2 s.heap.objs.size = some (.lst (as.map V.ref)) := g2 _ _ upd_same
  obtain ⟨lf, stf⟩ := st.moreFz (fun b => b ∈ ls.map fun x => x.2.1) (isKeys_at (isKeys_of pr1))
  obtain ⟨lg, stg⟩ := stf.grow gg (fun b => b = s.heap.objs.size ∨ b ∈ as) fun b hb => by
    rcases hb with rfl | hb
    · exact ⟨hLn, _, hL2⟩
    · have hlt : s.heap.objs.size < b := hG.above b hb
      obtain ⟨vs, _, e⟩ := tu b hb
      exact ⟨I.hok.fresh (Nat.le_of_lt hlt), _, e⟩
  have le := lf.trans lg
  have pr2 : Paired (fun (p : List Key × V) (q : List Key × Addr × Value) => p.1 = q.1 ∧ H2 q.2.1 = some (.tup (p.1.map kV)) ∧ RelV p.2 q.2.2) ks ls := Paired.imp' (fun _ _ ⟨a1, a2, a3⟩ => ⟨a1, gg _ _ a2, a3⟩) pr1
  have rp := items_reps (p := X.prog) (w := X.w) (as := as) (pr.mono le) pr2 (by omega) (fun x hx => .inl (.inr (List.mem_map.mpr ⟨x, hx, rfl⟩))) (fun b hb => .inr (.inr hb)) fun j b hb => by
    obtain ⟨vs, ⟨j', x, y, h1, h2, h3, rfl⟩, e⟩ := tu b (List.mem_of_getElem? hb)
    have : j' = j := by
      have i1 := (List.getElem?_eq_some_iff.mp h1)
      have i2 := (List.getElem?_eq_some_iff.mp hb)
      obtain ⟨u1, v1⟩ := i1
      obtain ⟨u2, v2⟩ := i2
      exact (List.getElem_inj nd).mp (v1.trans v2.symm)
    subst this
    exact ⟨x, y, h2, h3, e⟩
  exact ⟨.ref s.heap.objs.size, H2, I3, rfl, po _ _ _ le stg ⟨_, _, rfl, ⟨.inr (.inl rfl), hL2⟩, rp⟩⟩
end
end Pz

set_option Elab.async false
set_option linter.all false
set_option maxRecDepth 100000
set_option maxHeartbeats 4000000
/-! C10: the new expressions are sound. -/
namespace Pz
open PySem PySem.Spec L2
def varD (o : Option (Option D)) : M D := match o with
  | some (some d) => pure d
  | _ => fail
def listD (x : D) (T : Store) : Res D := match isSeq T x with
  | some xs => .ok (.lst xs) T
  | none => .bad
section
variable {P : Prog} {call : Nat → List D → M D} {k : Nat}
theorem alloc_lst {e : E} (h : allocE e = true) (hb : ∀ op a b, e ≠ .bin op a b) {env : Env} {T T' : Store} {d : D} (ev : evalE P call e env T = .ok d T') : ∃ ds, d = .lst ds := by
  cases e with
  | lst es =>
    obtain ⟨ds, T1, e1, e2⟩ := bind_ok (show (evalEs P call es env >>= fun ds => fun T => okIf (lim ds.length) (D.lst ds) T) T = .ok d T' from ev)
    obtain ⟨_, rfl, _⟩ := okIf_ok e2
    exact ⟨ds, rfl⟩
  | comp own t it c e =>
    obtain ⟨w, T1, e1, e2⟩ := bind_ok ev
    obtain ⟨ys, T2, e3, e4⟩ := bind_ok e2
    obtain ⟨rfl, _⟩ := pure_ok e4
    exact ⟨ys, rfl⟩
  | lstS fs es =>
    obtain ⟨ds, T1, e1, e2⟩ := bind_ok (show (evalSs P call es fs env >>= fun ds => fun T => okIf (lim ds.length) (D.lst ds) T) T = .ok d T' from ev)
    obtain ⟨_, rfl, _⟩ := okIf_ok e2
    exact ⟨ds, rfl⟩
  | blt b args =>
    cases b <;> first | (cases h; done) | skip
    cases args with
    | nil => cases h
    | cons a r =>
      cases r with
      | cons _ _ => cases h
      | nil =>
        obtain ⟨ds, T1, e1, e2⟩ := bind_ok ev
        obtain ⟨y, T2, e3, e4⟩ := bind_ok e1
        obtain ⟨ys, T3, e5, e6⟩ := bind_ok e4
        obtain ⟨rfl, rfl⟩ := pure_ok e5
        obtain ⟨rfl, rfl⟩ := pure_ok e6
        replace e2 : listD y _ = .ok d T' := e2
        unfold listD at e2
        split at e2
        · cases e2
          exact ⟨_, rfl⟩
        · cases e2
  | bin op a b => exact absurd rfl (hb op a b)
  | _ => cases h
variable {N : List Str} {sc : Scope} {X : Cx}
theorem snd_cmpO {o : CmpOp} {g : D → D → M D} {e : E} {a b : E} {l y : Expr} {p : Pos} (hr : OpR X (compareOp o) (rdOp X.K g)) (sa : PE X l (rdE X.K (evalE P call a))) (sb : PE X y (rdE X.K (evalE P call b))) (hs : noSet y = true)
    (he : evalE P call e = fun env => do let x ← evalE P call a env; let y ← evalE P call b env; g x y) (ha : allocE e = false) : Snd P call X e (.Compare l [o] [y] p) := by
  refine ⟨PE.weak (pe_cmpR hr sa sb (no_marks hs)) fun σ H Q q => rd_op (by rw [he] at q; exact q), PT.weak (pt_cmpR hr sa sb (no_marks hs)) fun σ H Q q => ?_, fun _ _ _ z => (by cases z), fun z => (by rw [ha] at z; cases z)⟩
  obtain ⟨R, T, env, b', T', st, en, e, po⟩ := q
  obtain ⟨x', T1, e1, e2⟩ := bind_ok e
  obtain ⟨rfl, rfl⟩ := boolD_ok e2
  rw [he] at e1
  exact rd_op ⟨R, T, env, .bl b', T1, st, en, e1, fun R1 H1 v l1 s1 r1 => ⟨b', r1, po R1 H1 l1 s1⟩⟩
/-- a built-in of one argument -/
def oneE : E → Option E
  | .lenO a => some a
  | .labT a => some a
  | .sortedK a => some a
  | .minT a => some a
  | .maxT a => some a
  | .tupStr a => some a
  | _ => none
theorem snd_one {e a : E} {g : D → M D} (nm : Str) (hcl : (∃ id, bootBuiltins nm = some (.builtin id) ∧ True ∧ CallR X (.builtin id) (rdCl1 X.K g)) ∨ ∃ id, bootBuiltins nm = some (.type id) ∧ True ∧ CallR X (.type id) (rdCl1 X.K g)) (hfree : nm ∈ bltNames)
    (he : evalE P call e = fun env => do let x ← evalE P call a env; g x) (ha : allocE e = false) (C : CxOk P call k N sc X) {y : Expr} {np p : Pos} (hg : isGlo sc nm = true) (hk : nameOk nm = true) (hst : noStar y = true) (sa : PE X y (rdE X.K (evalE P call a))) : Snd P call X e (.Call (.Name nm np) [y] [] p) := by
  obtain ⟨d1, d2, d3⟩ := nameOk_d hk
  have hm : X.mg nm = none := C.g.free nm hfree
  have pa := pa_cons sa pa_nil (star_no hst [] X.env)
  refine .plain ?_ rfl ha
  rw [he]
  rcases hcl with ⟨id, hb, _, hc⟩ | ⟨id, hb, _, hc⟩
  · exact PE.weak (pe_callB hc (C.gl hg) hm hb pa d3 d1 (star_no hst [] X.env) rfl) fun σ H Q q => rd_cl1 q
  · exact PE.weak (pe_callTy hc (C.gl hg) hm hb pa d3 d1 (star_no hst [] X.env) rfl) fun σ H Q q => rd_cl1 q
theorem items_pe (C : CxOk P call k N sc X) {ea : Env → M D} {x nm : Str} {np p ap cp : Pos} {o : Expr} (hx : x = ("list" : Str)) (hg : isGlo sc x = true) (hk : nameOk x = true) (hnm : nm = ("items" : Str)) (hl : (ap.endLine == cp.line) = true) (hc0 : noCall0 o = true) (so : PE X o (rdE X.K ea)) :
    PE X (.Call (.Name x np) [.Call (.Attribute o nm ap) [] [] cp] [] p) (rdE X.K fun env => do
      let x ← ea env
      itemsD x) := by
  subst hx
  subst hnm
  obtain ⟨d1, d2, d3⟩ := nameOk_d hk
  have hm : X.mg "list" = none := C.g.free "list" (by decide)
  have inner := pe_bm0 (apos := ap) (cpos := cp) PySem.F.plainAttrs_dict PySem.F.slot_dict_items PySem.F.type_dict_items DX.mt_itemsT so (att_base hc0 _ _) hl
  have pa := pa_cons inner pa_nil rfl
  refine PE.weak (pe_callTy (cl_items C.calm) (C.gl hg) hm (by decide +kernel) pa d3 d1 rfl rfl) fun σ H Q q => ?_
  obtain ⟨R, T, env, d, T', st, en, e, po⟩ := q
  refine rd_then (f := fun _ x => itemsD x) st en e fun x T1 R1 H1 v e1 l1 s1 en1 r1 => ?_
  unfold itemsD at e1
  split at e1
  · rename_i n
    split at e1
    · rename_i kvs et
      cases e1
      obtain ⟨a, rfl, c⟩ := id r1
      obtain ⟨⟨ks, q, pr⟩, _⟩ := s1.cell n a _ c et rfl
      refine ⟨.inr (.inr (.inl ⟨rfl, .inr ⟨ks, q⟩⟩)), a, ks, rfl, rfl, q, fun r hr => ?_⟩
      obtain ⟨l2, s2⟩ := s1.other (o := DX.itemsO r a) hr
      exact ⟨r, a, R1, _, n, kvs, rfl, upd_same, s2, c, et, (po.later l1).later l2⟩
    · cases e1
  · cases e1
theorem snd_bad {x : Expr} : Snd P call X .bad x := by
  have no : ∀ {σ : L2.St} {H : Hp} {Q : VK}, rdE X.K (evalE P call .bad) σ H Q → False := fun q => by
    obtain ⟨R, T, env, d, T', st, en, e, po⟩ := q
    cases e
  have noT : ∀ {σ : L2.St} {H : Hp} {Q : Bool → Hp → Prop}, rdT X.K (evalT P call .bad) σ H Q → False := fun q => by
    obtain ⟨R, T, env, d, T', st, en, e, po⟩ := q
    cases e
  exact ⟨⟨fun _ _ _ _ _ _ q => (no q).elim⟩, ⟨fun _ _ _ _ _ _ q => (noT q).elim⟩, fun _ _ _ _ => ⟨fun _ _ _ _ _ _ _ q => (noT q).elim⟩, fun z => (by cases z)⟩
theorem snd_no2 {o t it c o2 t2 it2 c2 e} {x : Expr} (h : chkE P N sc (.comp2 o t it c o2 t2 it2 c2 e) x = true) : Snd P call X (.comp2 o t it c o2 t2 it2 c2 e) x := by
  exfalso
  revert h
  cases x <;> exact fun h => Bool.noConfusion h
theorem snd_att (C : CxOk P call k N sc X) {a : E} {f : Str} (ih : ∀ y, chkE P N sc a y = true → Snd P call X a y) {x : Expr} (h : chkE P N sc (.att a f) x = true) : Snd P call X (.att a f) x := by
  replace h : (match attX x with
    | some q => decide (q.2 = f) && noCall0 q.1 && chkE P N sc a q.1
    | none => false) = true := h
  split at h
  · rename_i q e
    obtain ⟨p, rfl⟩ := attX_eq e
    simp only [Bool.and_eq_true, decide_eq_true_eq] at h
    obtain ⟨⟨rfl, hb⟩, ha⟩ := h
    exact .plain (att_pe C hb (ih _ ha).pe) rfl rfl
  · cases h
theorem snd_meth (C : CxOk P call k N sc X) {a : E} {m : Str} {args : List E} (ih : ∀ y, chkE P N sc a y = true → Snd P call X a y) (ihs : ∀ ys, chkEs P N sc args ys = true → PA X ys (rdA X.K (evalEs P call args))) {x : Expr} (h : chkE P N sc (.meth a m args) x = true) : Snd P call X (.meth a m args) x := by
  replace h : (match methX x with
    | some q => decide (q.2.1 = m) && q.2.2.2 && Nat.blt q.2.2.1.length 29 && noCall0 q.1 && chkE P N sc a q.1 && chkEs P N sc args q.2.2.1
    | none => false) = true := h
  split at h
  · rename_i q e
    obtain ⟨ap, cp, rfl, hl⟩ := methX_eq e
    simp only [Bool.and_eq_true, decide_eq_true_eq] at h
    obtain ⟨⟨⟨⟨⟨rfl, h1⟩, hlt⟩, hc0⟩, ho⟩, ha⟩ := h
    exact .plain (meth_pe C hc0 (by rw [← hl]; exact h1) (blt_lt hlt) (ih _ ho).pe ha (ihs _ ha)) rfl rfl
  · cases h
theorem snd_make (C : CxOk P call k N sc X) {z : Bool} {c : Str} {args : List E} (ihs : ∀ ys, chkEs P N sc args ys = true → PA X ys (rdA X.K (evalEs P call args))) {x : Expr} (h : chkE P N sc (.make z c args) x = true) : Snd P call X (.make z c args) x := by
  replace h : (match ncallX x with
    | some q => decide (q.1 = c) && isGlo sc q.1 && nameOk q.1 && chkEs P N sc args q.2
    | none => false) = true := h
  split at h
  · rename_i q e
    obtain ⟨np, p, rfl⟩ := ncallX_eq e
    simp only [Bool.and_eq_true, decide_eq_true_eq] at h
    obtain ⟨⟨⟨rfl, hg⟩, hk⟩, ha⟩ := h
    exact .plain (make_pe C hg hk ha (ihs _ ha)) rfl rfl
  · cases h
theorem snd_stat (C : CxOk P call k N sc X) {c m : Str} {args : List E} (ihs : ∀ ys, chkEs P N sc args ys = true → PA X ys (rdA X.K (evalEs P call args))) {x : Expr} (h : chkE P N sc (.stat c m args) x = true) : Snd P call X (.stat c m args) x := by
  replace h : (match methX x with
    | some q => match nameE q.1 with
      | some x => q.2.2.2 && Nat.blt q.2.2.1.length 29 && decide (x = c) && isGlo sc x && nameOk x && decide (q.2.1 = m) && chkEs P N sc args q.2.2.1
      | none => false
    | none => false) = true := h
  split at h
  · rename_i q e
    obtain ⟨o, nm, xs, fl⟩ := q
    split at h
    · rename_i x' e2
      obtain ⟨ap, cp, rfl, hl⟩ := methX_eq e
      obtain ⟨np, e3⟩ := nameE_eq e2
      dsimp only at e3 h hl
      subst e3
      simp only [Bool.and_eq_true, decide_eq_true_eq] at h
      obtain ⟨⟨⟨⟨⟨⟨h1, hlt⟩, rfl⟩, hg⟩, hk⟩, rfl⟩, ha⟩ := h
      refine .plain ?_ rfl rfl
      cases hs : statOf P x' nm with
      | none =>
        refine ⟨fun pins s σ H Q I q => ?_⟩
        obtain ⟨R, T, env, d, T', st, en, e, po⟩ := q
        replace e : (match statOf P x' nm with
          | some g => (do let ds ← evalEs P call args env; callF P call g ds : M D)
          | none => fail) T = .ok d T' := e
        rw [hs] at e
        cases e
      | some g =>
        refine PE.weak (stat_pe C hg hk (by rw [← hl]; exact h1) (blt_lt hlt) ha (ihs _ ha) hs) fun σ H Q q => ?_
        obtain ⟨R, T, env, d, T', st, en, e, po⟩ := q
        replace e : (match statOf P x' nm with
          | some g => (do let ds ← evalEs P call args env; callF P call g ds : M D)
          | none => fail) T = .ok d T' := e
        rw [hs] at e
        exact ⟨R, T, env, d, T', st, en, e, po⟩
    · cases h
  · cases h
theorem snd_callO (C : CxOk P call k N sc X) {a : E} {args : List E} (ih : ∀ y, chkE P N sc a y = true → Snd P call X a y) (ihs : ∀ ys, chkEs P N sc args ys = true → PA X ys (rdA X.K (evalEs P call args))) {x : Expr} (h : chkE P N sc (.callO a args) x = true) : Snd P call X (.callO a args) x := by
  replace h : (match ncallE x with
    | some q => isVarE a && !q.2.isEmpty && chkE P N sc a q.1 && chkEs P N sc args q.2
    | none => false) = true := h
  split at h
  · rename_i q e
    obtain ⟨nm, np, p, e1, rfl⟩ := ncallE_eq e
    simp only [Bool.and_eq_true, Bool.not_eq_true'] at h
    obtain ⟨⟨⟨_, hne⟩, ho⟩, ha⟩ := h
    rw [e1] at ho
    exact .plain (callO_pe C (by intro z; rw [z] at hne; cases hne) (ih _ ho).pe ha (ihs _ ha)) rfl rfl
  · cases h
theorem snd_eqO (C : CxOk P call k N sc X) {neg : Bool} {a b : E} (ih : ∀ y, chkE P N sc a y = true → Snd P call X a y) (ih2 : ∀ y, chkE P N sc b y = true → Snd P call X b y) {x : Expr} (h : chkE P N sc (.eqO neg a b) x = true) : Snd P call X (.eqO neg a b) x := by
  replace h : (match cmpX x with
    | some q => decide (q.2.1 = eqP neg) && noSet q.2.2 && chkE P N sc a q.1 && chkE P N sc b q.2.2
    | none => false) = true := h
  split at h
  · rename_i q e
    obtain ⟨p, rfl⟩ := cmpX_eq e
    simp only [Bool.and_eq_true, decide_eq_true_eq] at h
    obtain ⟨⟨⟨ho, hs⟩, h1⟩, h2⟩ := h
    rw [ho]
    exact snd_cmpO (op_eqO C neg) (ih _ h1).pe (ih2 _ h2).pe hs rfl rfl
  · cases h
theorem snd_inO (C : CxOk P call k N sc X) {neg : Bool} {a b : E} (ih : ∀ y, chkE P N sc a y = true → Snd P call X a y) (ih2 : ∀ y, chkE P N sc b y = true → Snd P call X b y) {x : Expr} (h : chkE P N sc (.inO neg a b) x = true) : Snd P call X (.inO neg a b) x := by
  replace h : (match cmpX x with
    | some q => decide (q.2.1 = inP neg) && noSet q.2.2 && chkE P N sc a q.1 && chkE P N sc b q.2.2
    | none => false) = true := h
  split at h
  · rename_i q e
    obtain ⟨p, rfl⟩ := cmpX_eq e
    simp only [Bool.and_eq_true, decide_eq_true_eq] at h
    obtain ⟨⟨⟨ho, hs⟩, h1⟩, h2⟩ := h
    rw [ho]
    exact snd_cmpO (op_inO C neg) (ih _ h1).pe (ih2 _ h2).pe hs rfl rfl
  · cases h
theorem snd_binO (C : CxOk P call k N sc X) {op : OOp} {a b : E} (ih : ∀ y, chkE P N sc a y = true → Snd P call X a y) (ih2 : ∀ y, chkE P N sc b y = true → Snd P call X b y) {x : Expr} (h : chkE P N sc (.binO op a b) x = true) : Snd P call X (.binO op a b) x := by
  replace h : (match binX x with
    | some q => decide (q.2.1 = oopP op) && chkE P N sc a q.1 && chkE P N sc b q.2.2
    | none => false) = true := h
  split at h
  · rename_i q e
    obtain ⟨p, rfl⟩ := binX_eq e
    simp only [Bool.and_eq_true, decide_eq_true_eq] at h
    obtain ⟨⟨ho, h1⟩, h2⟩ := h
    rw [ho]
    exact .plain (PE.weak (pe_op (op_binO C op) (ih _ h1).pe (ih2 _ h2).pe) fun σ H Q q => rd_op q) rfl rfl
  · cases h
theorem snd_idxO (C : CxOk P call k N sc X) {a b : E} (ih : ∀ y, chkE P N sc a y = true → Snd P call X a y) (ih2 : ∀ y, chkE P N sc b y = true → Snd P call X b y) {x : Expr} (h : chkE P N sc (.idxO a b) x = true) : Snd P call X (.idxO a b) x := by
  replace h : (match subX x with
    | some q => noSlice q.2 && chkE P N sc a q.1 && chkE P N sc b q.2
    | none => false) = true := h
  split at h
  · rename_i q e
    obtain ⟨p, rfl⟩ := subX_eq e
    simp only [Bool.and_eq_true] at h
    exact .plain (idxO_pe C h.1.1 (ih _ h.1.2).pe (ih2 _ h.2).pe) rfl rfl
  · cases h
theorem snd_lenO (C : CxOk P call k N sc X) {a : E} (ih : ∀ y, chkE P N sc a y = true → Snd P call X a y) {x : Expr} (h : chkE P N sc (.lenO a) x = true) : Snd P call X (.lenO a) x := by
  replace h : (match oneX "len" sc x with
    | some y => chkE P N sc a y
    | none => false) = true := h
  split at h
  · rename_i y e
    obtain ⟨np, p, rfl, hg, hk, hst⟩ := oneX_eq e
    exact snd_one (e := .lenO a) (a := a) "len" (.inl ⟨"len", by decide +kernel, trivial, cl_lenO C⟩) (by decide) rfl rfl C hg hk hst (ih y h).pe
  · cases h
theorem snd_labT (C : CxOk P call k N sc X) {a : E} (ih : ∀ y, chkE P N sc a y = true → Snd P call X a y) {x : Expr} (h : chkE P N sc (.labT a) x = true) : Snd P call X (.labT a) x := by
  replace h : (match oneX "tuple" sc x with
    | some y => chkE P N sc a y
    | none => false) = true := h
  split at h
  · rename_i y e
    obtain ⟨np, p, rfl, hg, hk, hst⟩ := oneX_eq e
    exact snd_one (e := .labT a) (a := a) "tuple" (.inr ⟨"tuple", by decide +kernel, trivial, cl_labT⟩) (by decide) rfl rfl C hg hk hst (ih y h).pe
  · cases h
theorem snd_sortedK (C : CxOk P call k N sc X) {a : E} (ih : ∀ y, chkE P N sc a y = true → Snd P call X a y) {x : Expr} (h : chkE P N sc (.sortedK a) x = true) : Snd P call X (.sortedK a) x := by
  replace h : (match oneX "sorted" sc x with
    | some y => chkE P N sc a y
    | none => false) = true := h
  split at h
  · rename_i y e
    obtain ⟨np, p, rfl, hg, hk, hst⟩ := oneX_eq e
    exact snd_one (e := .sortedK a) (a := a) "sorted" (.inl ⟨"sorted", by decide +kernel, trivial, cl_sortedK C.calm C.hu⟩) (by decide) rfl rfl C hg hk hst (ih y h).pe
  · cases h
theorem snd_minT (C : CxOk P call k N sc X) {a : E} (ih : ∀ y, chkE P N sc a y = true → Snd P call X a y) {x : Expr} (h : chkE P N sc (.minT a) x = true) : Snd P call X (.minT a) x := by
  replace h : (match oneX "min" sc x with
    | some y => chkE P N sc a y
    | none => false) = true := h
  split at h
  · rename_i y e
    obtain ⟨np, p, rfl, hg, hk, hst⟩ := oneX_eq e
    exact snd_one (e := .minT a) (a := a) "min" (.inl ⟨"min", by decide +kernel, trivial, cl_minT C.calm C.hu⟩) (by decide) rfl rfl C hg hk hst (ih y h).pe
  · cases h
theorem snd_maxT (C : CxOk P call k N sc X) {a : E} (ih : ∀ y, chkE P N sc a y = true → Snd P call X a y) {x : Expr} (h : chkE P N sc (.maxT a) x = true) : Snd P call X (.maxT a) x := by
  replace h : (match oneX "max" sc x with
    | some y => chkE P N sc a y
    | none => false) = true := h
  split at h
  · rename_i y e
    obtain ⟨np, p, rfl, hg, hk, hst⟩ := oneX_eq e
    exact snd_one (e := .maxT a) (a := a) "max" (.inl ⟨"max", by decide +kernel, trivial, cl_maxT C.calm C.hu⟩) (by decide) rfl rfl C hg hk hst (ih y h).pe
  · cases h
theorem snd_tupStr (C : CxOk P call k N sc X) {a : E} (ih : ∀ y, chkE P N sc a y = true → Snd P call X a y) {x : Expr} (h : chkE P N sc (.tupStr a) x = true) : Snd P call X (.tupStr a) x := by
  replace h : (match oneX "tuple" sc x with
    | some y => chkE P N sc a y
    | none => false) = true := h
  split at h
  · rename_i y e
    obtain ⟨np, p, rfl, hg, hk, hst⟩ := oneX_eq e
    exact snd_one (e := .tupStr a) (a := a) "tuple" (.inr ⟨"tuple", by decide +kernel, trivial, cl_tupStr C.calm⟩) (by decide) rfl rfl C hg hk hst (ih y h).pe
  · cases h
theorem snd_items (C : CxOk P call k N sc X) {a : E} (ih : ∀ y, chkE P N sc a y = true → Snd P call X a y) {x : Expr} (h : chkE P N sc (.itemsL a) x = true) : Snd P call X (.itemsL a) x := by
  replace h : (match oneX "list" sc x with
    | some y => match methX y with
      | some q => decide (q.2.1 = ("items" : Str)) && q.2.2.1.isEmpty && q.2.2.2 && noCall0 q.1 && chkE P N sc a q.1
      | none => false
    | none => false) = true := h
  split at h
  · rename_i y e
    split at h
    · rename_i q e2
      obtain ⟨o, nm, xs, fl⟩ := q
      obtain ⟨np, p, rfl, hg, hk, hst⟩ := oneX_eq e
      obtain ⟨ap, cp, rfl, hl⟩ := methX_eq e2
      simp only [Bool.and_eq_true, decide_eq_true_eq] at h
      obtain ⟨⟨⟨⟨hn, he⟩, h1⟩, hc0⟩, ha⟩ := h
      cases xs with
      | cons _ _ => cases he
      | nil => exact .plain (items_pe C rfl hg hk hn (by rw [← hl]; exact h1) hc0 (ih _ ha).pe) rfl rfl
    · cases h
  · cases h
theorem snd_tupS {fs : List Bool} {es : List E} (ihs : ∀ ys, chkSt P N sc es fs ys = true → PA X ys (rdA X.K (evalSs P call es fs))) {x : Expr} (h : chkE P N sc (.tupS fs es) x = true) : Snd P call X (.tupS fs es) x := by
  replace h : (match tupE x with
    | some xs => chkSt P N sc es fs xs
    | none => false) = true := h
  split at h
  · rename_i xs e
    obtain ⟨kk, p, rfl⟩ := tupE_eq e
    exact .plain (PE.weak (pe_tup (ihs _ h)) fun σ H Q q => rd_tup q) rfl rfl
  · cases h
theorem snd_labS {fs : List Bool} {es : List E} (ihs : ∀ ys, chkSt P N sc es fs ys = true → PA X ys (rdA X.K (evalSs P call es fs))) {x : Expr} (h : chkE P N sc (.labS fs es) x = true) : Snd P call X (.labS fs es) x := by
  replace h : (match tupE x with
    | some xs => chkSt P N sc es fs xs
    | none => false) = true := h
  split at h
  · rename_i xs e
    obtain ⟨kk, p, rfl⟩ := tupE_eq e
    exact .plain (PE.weak (pe_lab (ihs _ h)) fun σ H Q q => rd_lab q) rfl rfl
  · cases h
theorem snd_lstS {fs : List Bool} {es : List E} (ihs : ∀ ys, chkSt P N sc es fs ys = true → PA X ys (rdA X.K (evalSs P call es fs))) {x : Expr} (h : chkE P N sc (.lstS fs es) x = true) : Snd P call X (.lstS fs es) x := by
  replace h : (match lstE x with
    | some xs => chkSt P N sc es fs xs
    | none => false) = true := h
  split at h
  · rename_i xs e
    obtain ⟨p, rfl⟩ := lstE_eq e
    exact .fresh (PE.weak (pe_lst (ihs _ h)) fun σ H Q q => rdF_lst q) rfl fun env T d T' ev => alloc_lst (P := P) (call := call) (e := .lstS fs es) rfl (fun _ _ _ z => by cases z) ev
  · cases h
end
end Pz

set_option Elab.async false
set_option linter.all false
set_option maxRecDepth 100000
set_option maxHeartbeats 4000000
/-! C11: isinstance of instances and with own classes; x[::-1]. -/
namespace Pz
open PySem PySem.Spec PyProof.Rows L2
section
variable {P : Prog} {call : Nat → List D → M D} {k : Nat} {N : List Str} {sc : Scope} {X : Cx}
def tyVo (K : PySem.W.Frag) : TyO → V
  | .blt t => .ty (tyS t)
  | .own c => .ref (He.ga K c)
def tyUo (K : PySem.W.Frag) : TyO → Value
  | .blt t => .type (tyS t)
  | .own c => .ref (He.ga K c)
theorem tyVo_cls (K : PySem.W.Frag) (t : TyO) : ClsV (tyVo K t) (tyUo K t) := by
  cases t
  · exact .ty _
  · exact .own _
theorem tysO_paired (K : PySem.W.Frag) : ∀ ts : List TyO, Paired ClsV (ts.map (tyVo K)) (ts.map (tyUo K))
  | [] => .nil
  | t :: ts => .cons (tyVo_cls K t) (tysO_paired K ts)
theorem tyO_of (C : CxOk P call k N sc X) {R : Rho} {T : Store} {H : Hp} {x : D} {v : V} (st : StOk X.K R T H) (rx : Rep X.K R H x v) {t0 : TyO} {b0 : Bool} (h : isOne P T x t0 = some b0) :
    ∃ tv, TyX X.K H v tv ∧ ∀ t b, isOne P T x t = some b → PySem.W.kitOne X.K tv (tyUo X.K t) = some b := by
  cases eo : objOf T x with
  | some q =>
    obtain ⟨c, ns, fs⟩ := q
    have hc : ∃ cd, clsIn c P.cls = some cd := by
      cases t0 with
      | blt t =>
        simp only [isOne, eo] at h
        cases e : clsIn c P.cls with
        | none => rw [e] at h; cases h
        | some cd => exact ⟨cd, rfl⟩
      | own c' =>
        simp only [isOne, eo] at h
        cases e' : clsIn c' P.cls with
        | none => rw [e'] at h; cases h
        | some cd' =>
          rw [e'] at h
          dsimp only at h
          cases e : clsIn c P.cls with
          | none => rw [e] at h; cases h
          | some cd => exact ⟨cd, rfl⟩
    obtain ⟨cd, ec⟩ := hc
    obtain ⟨hcd, rfl⟩ := clsIn_ok ec
    obtain ⟨a, dx, vs, rfl, q, l, r⟩ := objOf_at st eo rx
    refine ⟨_, obj_ty C hcd q, fun t b e => ?_⟩
    cases t with
    | blt t =>
      simp only [isOne, eo, ec] at e
      cases e
      exact (C.g.cls cd hcd).kit t
    | own c' =>
      simp only [isOne, eo, ec] at e
      cases e' : clsIn c' P.cls with
      | none => rw [e'] at e; cases e
      | some cd' =>
        rw [e'] at e
        obtain ⟨hcd', rfl⟩ := clsIn_ok e'
        dsimp only at e
        rw [beqS_dec] at e
        cases e
        exact ((C.g.cls cd' hcd').own cd hcd).1
  | none =>
    have ht : tyD T x .int ≠ none := by
      cases t0 with
      | blt t =>
        simp only [isOne, eo] at h
        exact tyD_int h
      | own c' =>
        simp only [isOne, eo] at h
        cases e' : clsIn c' P.cls with
        | none => rw [e'] at h; cases h
        | some cd' =>
          rw [e'] at h
          dsimp only at h
          cases e : tyD T x .int with
          | none => rw [e] at h; cases h
          | some _ => simp
    obtain ⟨n, ty, kit, hn⟩ := ty_of st rx ht
    refine ⟨_, ty, fun t b e => ?_⟩
    cases t with
    | blt t =>
      simp only [isOne, eo] at e
      exact kit t b e
    | own c' =>
      simp only [isOne, eo] at e
      cases e' : clsIn c' P.cls with
      | none => rw [e'] at e; cases e
      | some cd' =>
        rw [e'] at e
        obtain ⟨hcd', rfl⟩ := clsIn_ok e'
        dsimp only at e
        cases e2 : tyD T x .int with
        | none => rw [e2] at e; cases e
        | some _ =>
          rw [e2] at e
          cases e
          exact ((C.g.cls cd' hcd').tik n hn).1
theorem isO_go {K : PySem.W.Frag} {T : Store} {x : D} {tv : Value} (hk : ∀ t b, isOne P T x t = some b → PySem.W.kitOne K tv (tyUo K t) = some b) : ∀ (ts : List TyO) (b : Bool), isOD.go P x T ts = some b → PySem.W.kitAny K tv (ts.map (tyUo K)) = some b
  | [], b, h => by cases h; rfl
  | t :: ts, b, h => by
    unfold isOD.go at h
    cases e1 : isOne P T x t with
    | none => rw [e1] at h; cases h
    | some c =>
      cases e2 : isOD.go P x T ts with
      | none => rw [e1, e2] at h; cases h
      | some c' =>
        rw [e1, e2] at h
        cases h
        have ih := isO_go hk ts c' e2
        rw [List.map_cons]
        unfold PySem.W.kitAny
        rw [hk t c e1]
        cases c with
        | true => rfl
        | false => exact ih
theorem isO_first {T : Store} {x : D} {t : TyO} {ts : List TyO} {b : Bool} (h : isOD.go P x T (t :: ts) = some b) : ∃ c, isOne P T x t = some c := by
  unfold isOD.go at h
  cases e1 : isOne P T x t with
  | none => rw [e1] at h; cases h
  | some c => exact ⟨c, rfl⟩
theorem tyO_pe (C : CxOk P call k N sc X) {t : TyO} {x : Str} {p : Pos} (h : tyOk1 P sc t x = true) : PE X (.Name x p) (tC (tyVo X.K t)) := by
  unfold tyOk1 at h
  simp only [Bool.and_eq_true] at h
  obtain ⟨⟨h1, h2⟩, h3⟩ := h
  cases t with
  | blt t => exact ty_pe C (of_decide_eq_true h3) h1 h2
  | own c =>
    simp only [Bool.and_eq_true, decide_eq_true_eq] at h3
    obtain ⟨rfl, h4⟩ := h3
    obtain ⟨cd, ec⟩ := Option.isSome_iff_exists.mp h4
    obtain ⟨hcd, rfl⟩ := clsIn_ok ec
    obtain ⟨d1, d2, d3⟩ := nameOk_d h2
    exact pe_glob (C.gl h1) (C.g.cls cd hcd).glo rfl d1
theorem tyO_pa (C : CxOk P call k N sc X) : ∀ {ts : List TyO} {es : List Expr}, chkTyO.all P sc ts es = true → PA X es (fun _ H Q => Q (ts.map (tyVo X.K)) H)
  | [], [], _ => pa_nil
  | [], _ :: _, h => by cases h
  | _ :: _, [], h => by cases h
  | t :: ts, e :: es, h => by
    cases e <;> first | (cases h; done) | skip
    simp only [chkTyO.all, Bool.and_eq_true] at h
    exact PA.weak (pa_cons (tyO_pe C h.1) (tyO_pa C h.2)) fun σ H Q q => q
theorem isO_one (C : CxOk P call k N sc X) {a : E} {ts : List TyO} {y c : Expr} {nm : Str} {p np : Pos} (hn : nm = ("isinstance" : Str)) (hg : isGlo sc nm = true) (hk : nameOk nm = true) (hne : ts ≠ []) (hfew : ts.length ≤ 1000) (ht : chkTyO P sc ts c = true) (hs : noStar y = true)
    (sa : PE X y (rdE X.K (evalE P call a))) : PE X (.Call (.Name nm np) [y, c] [] p) (rdE X.K (evalE P call (.isO a ts))) := by
  obtain ⟨d1, d2, d3⟩ := nameOk_d hk
  have hm : X.mg nm = none := C.g.free nm (by rw [hn]; decide)
  have hb : bootBuiltins nm = some (.builtin "isinstance") := by rw [hn]; decide +kernel
  have dec : ∀ {σ : L2.St} {H : Hp} {Q : VK}, rdE X.K (evalE P call (.isO a ts)) σ H Q → rdE X.K (evalE P call a) σ H fun v H1 => ∃ R T x d T', StOk X.K R T H1 ∧ Rep X.K R H1 x v ∧ isOD P x ts T = .ok d T' ∧ Post X.K R H1 d T' Q := by
    intro σ H Q q
    obtain ⟨R, T, env, d, T', st, en, e, po⟩ := q
    simp only [evalE] at e
    refine rd_then (f := fun _ x => isOD P x ts) st en e fun x T1 R1 H1 v e1 l1 s1 en1 r1 => ?_
    exact ⟨R1, T1, x, d, T', s1, r1, e1, po.later l1⟩
  obtain ⟨t0, ts0, rfl⟩ : ∃ t0 ts0, ts = t0 :: ts0 := by
    cases ts with
    | nil => exact absurd rfl hne
    | cons t ts => exact ⟨t, ts, rfl⟩
  by_cases htup : ∃ es kk tp, c = .Tuple es kk tp
  · obtain ⟨es, kk, tp, rfl⟩ := htup
    have hall : chkTyO.all P sc (t0 :: ts0) es = true := by
      cases ts0 <;> exact ht
    have pa := pa_cons sa (pa_cons (pe_tup (x1 := kk) (pos := tp) (tyO_pa C hall)) pa_nil rfl) (star_no hs _ X.env)
    refine PE.weak (pe_callB call_isiT (C.gl hg) hm hb pa d3 d1 (star_no hs _ X.env) rfl) fun σ H Q q => ?_
    refine (show rdE X.K (evalE P call a) σ H _ from ?_)
    obtain ⟨R, T, env, d, T', st, en, e, po⟩ := dec q
    refine ⟨R, T, env, d, T', st, en, e, fun R1 H1 v l1 s1 r1 => ?_⟩
    obtain ⟨R2, T2, x, d2, T3, s2, r2, e2, po2⟩ := po R1 H1 v l1 s1 r1
    obtain ⟨b, e3, rfl, rfl⟩ := optB_ok e2
    obtain ⟨c0, ec0⟩ := isO_first e3
    refine ⟨by rw [List.length_map]; exact Nat.le_trans hfew (by decide), fun t hp => ?_⟩
    obtain ⟨l3, s3⟩ := s2.newFz (o := .tup ((t0 :: ts0).map (tyVo X.K))) hp
    obtain ⟨tv, ty', kit'⟩ := tyO_of C s3 (Rep.mono l3 _ _ r2) ec0
    exact ⟨v, t, _, _, _, b, rfl, upd_same, tysO_paired X.K _, ty', isO_go kit' _ b e3, po2 _ _ _ l3 s3 rfl⟩
  · match ts0, c, ht with
    | [], .Name x q, ht =>
      have pa := pa_cons sa (pa_cons (tyO_pe C (p := q) ht) pa_nil rfl) (star_no hs _ X.env)
      refine PE.weak (pe_callB call_isi (C.gl hg) hm hb pa d3 d1 (star_no hs _ X.env) rfl) fun σ H Q q => ?_
      obtain ⟨R, T, env, d, T', st, en, e, po⟩ := dec q
      refine ⟨R, T, env, d, T', st, en, e, fun R1 H1 v l1 s1 r1 => ?_⟩
      obtain ⟨R2, T2, x, d2, T3, s2, r2, e2, po2⟩ := po R1 H1 v l1 s1 r1
      obtain ⟨b, e3, rfl, rfl⟩ := optB_ok e2
      obtain ⟨c0, ec0⟩ := isO_first e3
      obtain ⟨tv, ty, kit⟩ := tyO_of C s2 r2 ec0
      have e4 : isOne P T2 x t0 = some b := by
        unfold isOD.go at e3
        rw [ec0] at e3 ⊢
        have : (some (c0 || false) : Option Bool) = some b := e3
        rw [Bool.or_false] at this
        exact this
      exact ⟨v, _, _, _, b, rfl, tyVo_cls X.K t0, ty, kit t0 b e4, Post.now s2 po2 rfl⟩
    | t, .Tuple es kk tp, _ => exact absurd ⟨es, kk, tp, rfl⟩ htup
theorem snd_isO (C : CxOk P call k N sc X) {a : E} {ts : List TyO} (ih : ∀ y, chkE P N sc a y = true → Snd P call X a y) {x : Expr} (h : chkE P N sc (.isO a ts) x = true) : Snd P call X (.isO a ts) x := by
  replace h : (match isiX sc x with
    | some q => !ts.isEmpty && Nat.ble ts.length 1000 && chkTyO P sc ts q.2 && chkE P N sc a q.1
    | none => false) = true := h
  split at h
  · rename_i q e
    obtain ⟨y, c⟩ := q
    obtain ⟨nm, np, p, rfl, hn, hg, hk, hs⟩ := isiX_eq e
    simp only [Bool.and_eq_true] at h
    obtain ⟨⟨⟨hne, hfew⟩, ht⟩, ha⟩ := h
    exact .plain (isO_one C hn hg hk (by intro z; subst z; cases hne) (Nat.le_of_ble_eq_true hfew) ht hs (ih y ha).pe) rfl rfl
  · cases h
/-! ### x[::-1] -/
theorem adjust_rev (n : Nat) : Builtin.Slice.sliceAdjust none none (-1) (n : Int) = ((n : Int) - 1, -1) := by
  unfold Builtin.Slice.sliceAdjust
  simp
theorem places_rev (n : Nat) : Builtin.Slice.slicePlaces ((n : Int) - 1) (-1) (-1) = n := by
  unfold Builtin.Slice.slicePlaces
  rw [if_neg (by omega)]
  by_cases h : (n : Int) - 1 > -1
  · rw [if_pos h]
    simp
  · rw [if_neg h]
    omega
theorem pick_rev (xs : Array Value) : ((List.range xs.size).filterMap fun (m : Nat) => xs[((xs.size : Int) - 1 + (m : Int) * (-1)).toNat]?).toArray = xs.toList.reverse.toArray := by
  congr 1
  have e : ∀ m ∈ List.range xs.size, (fun (m : Nat) => xs[((xs.size : Int) - 1 + (m : Int) * (-1)).toNat]?) m = some (xs.toList.reverse.getD m .none) := by
    intro m hm
    have hm := List.mem_range.mp hm
    have e1 : ((xs.size : Int) - 1 + (m : Int) * (-1)).toNat = xs.size - 1 - m := by omega
    dsimp only
    rw [e1, List.getD_eq_getElem?_getD, List.getElem?_reverse (by rw [Array.length_toList]; exact hm), Array.length_toList, Array.getElem?_toList]
    cases h : xs[xs.size - 1 - m]? with
    | none =>
      have := Array.getElem?_eq_none_iff.mp h
      omega
    | some v => rfl
  apply List.ext_getElem?
  intro j
  have e2 : (List.range xs.size).filterMap (fun (m : Nat) => xs[((xs.size : Int) - 1 + (m : Int) * (-1)).toNat]?) = (List.range xs.size).map fun m => xs.toList.reverse.getD m .none := by
    generalize List.range xs.size = l at e
    induction l with
    | nil => rfl
    | cons a l ih =>
      have ea := e a (by simp)
      dsimp only at ea
      rw [List.filterMap_cons, ea, List.map_cons, ih fun m hm => e m (by simp [hm])]
  rw [e2, List.getElem?_map]
  by_cases hj : j < xs.size
  · rw [List.getElem?_range hj]
    have : j < xs.toList.reverse.length := by rw [List.length_reverse, Array.length_toList]; exact hj
    rw [Option.map_some, List.getElem?_eq_getElem this, List.getD_eq_getElem?_getD, List.getElem?_eq_getElem this]
    rfl
  · rw [List.getElem?_eq_none (by rw [List.length_range]; omega), List.getElem?_eq_none (by rw [List.length_reverse, Array.length_toList]; omega)]
    rfl
section
variable {prog : Program} {w : World} {A : Around} {E : Value → Shared → Prop} {s : Shared}
theorem sliceApplied_rev {sl : Addr} {vs : Value} {n : Nat} {Q : Int × Int × Nat → Shared → Prop} (hs : s.heap.IsSliceOf sl .none .none vs) (ps : IsPart vs (some (-1))) (h : Q ((n : Int) - 1, -1, n) s) : wpAny (model prog w) A (Builtin.Slice.sliceApplied (.ref sl) (pure (n : Int))) Q E s := by
  obtain ⟨os, hos, hcs, hds⟩ := id hs
  unfold Builtin.Slice.sliceApplied Builtin.Slice.sliceFields
  refine wpAny_bind (wpAny_bind (wpAny_field hos hds (x := .none) rfl (wpAny_bind (wpAny_field hos hds (x := .none) rfl (wpAny_bind (wpAny_field hos hds (x := vs) rfl (wpAny_pure ?_)))))))
  refine wpAny_bind (HT.slicePart_ ps ?_)
  show wpAny _ _ (if ((-1 : Int) == 0) = true then _ else _) _ _ s
  rw [if_neg (by decide)]
  refine wpAny_bind (HT.slicePart_ .none (wpAny_bind (HT.slicePart_ .none (wpAny_bind (wpAny_pure ?_)))))
  show wpAny _ _ (match Builtin.Slice.sliceAdjust none none (-1) (n : Int) with | (lo, hi) => pure (lo, (-1 : Int), Builtin.Slice.slicePlaces lo hi (-1))) _ _ s
  rw [adjust_rev n]
  show wpAny _ _ (pure ((n : Int) - 1, (-1 : Int), Builtin.Slice.slicePlaces ((n : Int) - 1) (-1) (-1))) _ _ s
  rw [places_rev]
  exact wpAny_pure h
theorem getItem_tuple_rev {t sl : Addr} {items : Array Value} {vs : Value} {Q : Value → Shared → Prop} (ht : PyProof.Rows.IsTup s.heap t items) (hs : s.heap.IsSliceOf sl .none .none vs) (ps : IsPart vs (some (-1)))
    (h : Q (.ref s.heap.objs.size) { s with heap := s.heap.push { cls := .type "tuple", data := .seq items.toList.reverse.toArray } }) (hsz : items.size ≤ sizeLine) : wpAny (model prog w) A (getItem (.ref t) (.ref sl)) Q E s := by
  have htake : sizeOk (.seq items.toList.reverse.toArray) := by
    show items.toList.reverse.toArray.size ≤ sizeLine
    rw [List.size_toArray, List.length_reverse, Array.length_toList]
    exact hsz
  obtain ⟨os, hos, hcs, hds⟩ := id hs
  have hTs : s.TypeIs (.ref sl) "slice" := ⟨os, hos, hcs⟩
  unfold getItem
  try with_reducible refine wpAny_holding ?_
  first | refine wpAny_bind (wpAny_pure ?_) | skip
  refine wpAny_bind (wpAny_sequenceKey ht.typeIs (by decide) ?_)
  refine wpAny_bind (wpAny_callSpecial?_slot (name := Str.ofString "__getitem__") ht.typeIs PyProof.Rows.slot_tuple_getitem
    (wpAny_call_entry PyProof.Rows.slot_tuple_getitem ht.typeIs PyProof.Rows.entry_tuple_getitem ?_ (PyProof.Rows.args_tuple_getitem _ _)))
  show wpAny _ _ (Builtin.Tuple.tupleItemsOf (.ref t) >>= _) _ _ s
  refine wpAny_bind (PyProof.Rows.tupleItemsOf_ ht ?_)
  refine wpAny_bind (wpAny_typeOf hTs ?_)
  rw [if_pos (by decide)]
  refine wpAny_bind (sliceApplied_rev hs ps ?_)
  have hno : ¬ ((((items.size : Int) - 1) == 0 && (-1 : Int) == 1 && items.size == items.size) = true) := by
    rw [show ((-1 : Int) == 1) = false from rfl]
    simp
  show wpAny _ _ (if (((items.size : Int) - 1) == 0 && (-1 : Int) == 1 && items.size == items.size) = true then _ else _) _ _ s
  rw [if_neg hno, pick_rev]
  first
    | exact wpAny_bind (m := Builtin.Tuple.tupleExact _) (wpAny_newObj_type (wpAny_pure ⟨_, rfl, wpAny_pure h⟩) htake)
    | exact wpAny_bind (m := Builtin.Tuple.tupleExact _) (wpAny_newObj_type (wpAny_bind (wpAny_pure (wpAny_pure ⟨_, rfl, wpAny_pure h⟩))) htake)
    | exact wpAny_bind (wpAny_bind (m := Builtin.Tuple.tupleExact _) (wpAny_newObj_type (wpAny_pure (wpAny_pure ⟨_, rfl, wpAny_pure h⟩)) htake))
    | exact wpAny_bind (wpAny_bind (m := Builtin.Tuple.tupleExact _) (wpAny_newObj_type (wpAny_pure ⟨_, rfl, wpAny_pure h⟩) htake))
end
def tRev (K : PySem.W.Frag) (te : TE) : TE := fun σ H Q => te σ H fun x H1 => ∃ a xs, x = .ref a ∧ ((SqL K H1 a xs ∧ ∀ p, H1 p = none → Q (.ref p) (upd H1 p (.lst xs.reverse))) ∨ (SqT K H1 a xs ∧ ∀ p, H1 p = none → Q (.ref p) (upd H1 p (.tup xs.reverse))))
theorem pe_rev {e : Expr} {te : TE} {k : Nat} {p1 p2 p3 pos : Pos} (he : PE X e te) : PE X (.Subscript e (.Slice none none (some (.UnaryOp .USub (.Constant (.int 1) k p1) p2)) p3) pos) (tRev X.K te) := by
  refine ⟨fun pins s σ H Q I h => ?_⟩
  refine PyProof.Rows.Subscript_ (thn (he.run pins s σ H _ I h) fun v s1 ⟨x, H1, I1, r1, q1⟩ => ?_)
  obtain ⟨a, xs, ex, hq⟩ := q1
  subst ex
  cases r1
  have hst : PO X (some (.UnaryOp .USub (.Constant (.int 1) k p1) p2)) (tPart (tUn (rU fun i => .int (-i)) (tC (.int 1)))) := po_some (pe_un un_neg pe_int)
  refine wpAny_Slice (thn (po_none.run pins s1 σ H1 (fun o H2 => o = none ∧ H2 = H1) I1 ⟨rfl, rfl⟩) fun vl s2 ⟨l, H2, I2, pl, el, e2⟩ => ?_)
  subst el e2
  refine thn (po_none.run pins s2 σ H2 (fun o H3 => o = none ∧ H3 = H2) I2 ⟨rfl, rfl⟩) fun vu s3 ⟨u, H3, I3, pu, eu, e3⟩ => ?_
  subst eu e3
  refine thn (hst.run pins s3 σ H3 (fun o H4 => o = some (-1) ∧ H4 = H3) I3 ⟨1, rfl, -1, rfl, rfl, rfl⟩) fun vs s4 ⟨o, H4, I4, ps, eo, e4⟩ => ?_
  subst eo e4
  have I5 : Inv X pins σ H4 { s4 with heap := s4.heap.push { cls := .type "slice", data := .fields #[vl, vu, vs] } } := I4.kept (t' := s4.toks) fun b ob q => Heap.get?_push_of_some _ q
  show wpAny (model X.prog X.w) X.A (subscriptTail e (.Slice none none (some (.UnaryOp .USub (.Constant (.int 1) k p1) p2)) p3) (.ref a) (.ref s4.heap.objs.size)) (EP X pins σ Q) X.xe { s4 with heap := s4.heap.push { cls := .type "slice", data := .fields #[vl, vu, vs] } }
  rcases hq with ⟨hx, q⟩ | ⟨hx, q⟩
  · obtain ⟨its, r, ht, hz⟩ := I5.list hx
    have hlen := r.length
    refine tail_any (ops := [.ref a, .ref s4.heap.objs.size]) ht.isList.typeIs (PySem.slot_list_getitem.lookup) ?_ (by with_unfolding_all rfl)
    refine wpAny_getItem_list_slice ht.isList (Heap.IsSliceOf.new _ vl vu vs) pl pu ps (by decide) ?_ (by rw [List.size_toArray]; omega)
    rw [PySem.W.krv_pick]
    refine ⟨.ref _, _, I5.laid (t' := s4.toks) (o := .lst xs.reverse) (fun b ob q => Heap.get?_push_of_some _ q) (Nat.le_refl _) ?_, rfl, q _ (I5.hok.fresh (Nat.le_refl _))⟩
    exact ⟨by rw [List.length_reverse]; exact hz, _, 0, r.reverse, Heap.get?_push_size _ rfl⟩
  · obtain ⟨its, r, ht, hz⟩ := I5.tuple hx
    have hlen := r.length
    cases pl
    cases pu
    refine tail_any (ops := [.ref a, .ref s4.heap.objs.size]) ht.typeIs (PyProof.Rows.slot_tuple_getitem.lookup) ?_ (by with_unfolding_all rfl)
    refine getItem_tuple_rev ht (Heap.IsSliceOf.new _ _ _ vs) ps ?_ (by rw [List.size_toArray]; omega)
    refine ⟨.ref _, _, I5.laid (t' := s4.toks) (o := .tup xs.reverse) (fun b ob q => Heap.get?_push_of_some _ q) (Nat.le_refl _) ?_, rfl, q _ (I5.hok.fresh (Nat.le_refl _))⟩
    exact ⟨by rw [List.length_reverse]; exact hz, _, r.reverse, PyProof.Rows.IsTup.new _ _⟩
theorem Reps.reverse {K : PySem.W.Frag} {R : Rho} {H : Hp} : ∀ {ds : List D} {vs : List V}, Reps K R H ds vs → Reps K R H ds.reverse vs.reverse
  | [], vs, h => by cases h; exact rfl
  | d :: ds, vs, h => by
    obtain ⟨v, r, rfl, h1, h2⟩ := h
    rw [List.reverse_cons, List.reverse_cons]
    exact Reps.append (Reps.reverse h2) (Reps.one h1)
theorem snd_rev {a : E} (ih : ∀ y, chkE P N sc a y = true → Snd P call X a y) {x : Expr} (h : chkE P N sc (.rev a) x = true) : Snd P call X (.rev a) x := by
  replace h : (match revX x with
    | some y => chkE P N sc a y
    | none => false) = true := h
  split at h
  · rename_i y e
    obtain ⟨kk, p1, p2, p3, pos, rfl⟩ := revX_eq e
    refine .plain (PE.weak (pe_rev (ih y h).pe) fun σ H Q q => ?_) rfl rfl
    obtain ⟨R, T, env, d, T', st, en, e, po⟩ := q
    simp only [evalE] at e
    refine rd_then (f := fun _ x => revD x) st en e fun x T1 R1 H1 v e1 l1 s1 en1 r1 => ?_
    have po1 := po.later l1
    have lists : (match isList T1 x with
        | some xs => Res.ok (D.lst xs.reverse) T1
        | none => .bad) = .ok d T' → ∃ a xs, v = .ref a ∧ ((SqL X.K H1 a xs ∧ ∀ p, H1 p = none → Q (.ref p) (upd H1 p (.lst xs.reverse))) ∨ (SqT X.K H1 a xs ∧ ∀ p, H1 p = none → Q (.ref p) (upd H1 p (.tup xs.reverse)))) := by
      intro z
      split at z
      · rename_i xs ex
        cases z
        obtain ⟨a, ws, rfl, q, rs⟩ := isList_at s1 ex r1
        exact ⟨a, ws, rfl, .inl ⟨SqL.of q, fun p hp => Post.newLst s1 po1 (Reps.reverse rs) p hp⟩⟩
      · cases z
    cases x with
    | tup xs =>
      cases e1
      obtain ⟨a, ws, rfl, t, rs⟩ := r1
      exact ⟨a, ws, rfl, .inr ⟨t.sqT, fun p hp => Post.newTup s1 po1 (Reps.reverse rs) p hp⟩⟩
    | _ => exact lists e1
  · cases h
end
end Pz

set_option Elab.async false
set_option linter.all false
set_option maxRecDepth 100000
set_option maxHeartbeats 8000000
/-! I11: the theorem of expressions, by induction on the IR. -/
namespace Pz
open PySem PySem.Spec L2

section
variable {P : Prog} {call : Nat → List D → M D} {k : Nat}
theorem rd_dict0 {t : Bool} {K : PySem.W.Frag} {σ : L2.St} {H : Hp} {Q : VK} (h : rdE K (fun _ => newCell (.dic t [])) σ H Q) : ∀ p, H p = none → Q (.ref p) (upd H p (formOf t).emp) := by
  intro p hp
  obtain ⟨R, T, env, d, T', st, en, e, po⟩ := h
  replace e : Res.ok (D.ref T.length) (T ++ [.dic t []]) = .ok d T' := e
  cases e
  obtain ⟨l2, s2⟩ := st.newCell (o := (formOf t).emp) (c := .dic t []) hp fun R2 l2 => dic_emp upd_same
  refine po _ _ _ l2 s2 ⟨p, rfl, ?_⟩
  show (R.cell ++ [p])[T.length]? = some p
  rw [← st.len, List.getElem?_append_right (Nat.le_refl _), Nat.sub_self]
  rfl
theorem rdA_one {ea : Env → M D} {K : PySem.W.Frag} {σ : L2.St} {H : Hp} {Q : List V → Hp → Prop} (h : rdA K (fun env => do let x ← ea env; let xs ← (pure [] : M (List D)); pure (x :: xs)) σ H Q) : tCons (rdE K ea) tNil σ H Q := by
  obtain ⟨R, T, env, d, T', st, en, e, po⟩ := h
  refine rd_then (f := fun _ x => do let xs ← (pure [] : M (List D)); pure (x :: xs)) st en e fun x T1 R1 H1 v e1 l1 s1 en1 r1 => ?_
  obtain ⟨xs, T2, e2, e3⟩ := bind_ok e1
  obtain ⟨rfl, rfl⟩ := pure_ok e2
  obtain ⟨rfl, rfl⟩ := pure_ok e3
  exact po R1 H1 [v] l1 s1 (Reps.one r1)
theorem none_kw {pos : Pos} {env : PySem.Env} {kwl : List Keyword} {ks : List Str} (h : kwl.map (·.arg) = ks.map some) : (backToKw pos (keywordEach kwl env)).all (·.1.isSome) = true ∧ (backToKw pos (keywordEach kwl env)).filterMap (·.1) = ks ∧ (backToKw pos (keywordEach kwl env)).any (·.1.isNone) = false := by
  induction kwl generalizing ks with
  | nil =>
    cases ks with
    | nil => exact ⟨rfl, rfl, rfl⟩
    | cons _ _ => cases h
  | cons q kwl ih =>
    obtain ⟨a, v, p⟩ := q
    cases ks with
    | nil => cases h
    | cons c ks =>
      simp only [List.map_cons, List.cons.injEq] at h
      obtain ⟨ha, ht⟩ := h
      have ha : a = some c := ha
      subst ha
      obtain ⟨h1, h2, h3⟩ := ih ht
      exact ⟨h1, congrArg (c :: ·) h2, h3⟩

theorem mt_get_ok {X : Cx} (hu : X.A.units + 64 < cLine) : MtR X "dict.get" (rdMt X.K (mthD .get)) := by
  intro pins s σ H vx vs v us Q I rv rvs h
  obtain ⟨R, T, x, xs, d, T', st, rx, rxs, e, po⟩ := h
  replace e : getD x xs T = .ok d T' := e
  unfold getD at e
  split at e
  · rename_i ky df
    split at e
    · rename_i kvs e1
      cases e
      obtain ⟨w1, w2, rfl, r1, r2⟩ := len2 rxs
      obtain ⟨a, r, rfl, g, m⟩ := dictFor_at st e1 rx r1
      cases rv
      cases rvs with
      | cons q1 qs =>
        cases qs with
        | cons q2 qs =>
          cases qs
          refine d_get2 (by omega) I g q1 q2 fun w' s' I' rw' => ⟨_, H, I', rw', ?_⟩
          cases e3 : dget kvs ky with
          | none =>
            rw [e3] at m po
            subst m
            exact Post.now st po r2
          | some d' =>
            rw [e3] at m po
            obtain ⟨w, rfl, q⟩ := m
            exact Post.now st po q
    · cases e
  · cases e
theorem get_pe {X : Cx} (hu : X.A.units + 64 < cLine) {o : Expr} {nm : Str} {ap cp : Pos} {e : Expr} {es : List Expr} {to : TE} {t : TA} (h1 : nm = mtN .get) (ho : PE X o to) (ha : PA X (e :: es) t) (hb : noCall0 o = true)
    (hl : (ap.endLine == cp.line) = true) (hn : (e :: es).length < 29) (he : starEach (e :: es) X.env = (false, eval e X.env) :: starEach es X.env) (hpl : (backTo cp (starEach es X.env)).any (·.1) = false) (hal : (backTo cp (starEach (e :: es) X.env)).all (fun x => !x.1) = true) :
    PE X (.Call (.Attribute o nm ap) (e :: es) [] cp) (tBM X.K (mtT .get) (rdMt X.K (mthD .get)) to t) := by
  have few : ((backTo cp (starEach (e :: es) X.env)).all (fun x => !x.1) && (backToKw cp (keywordEach [] X.env)).all (fun x => x.1.isSome)
      && decide ((e :: es).length + ([] : List Keyword).length + (if ([] : List Keyword).isEmpty then 0 else 1) < 30)) = true := by
    rw [hal]
    have : (e :: es).length + ([] : List Keyword).length + (if ([] : List Keyword).isEmpty then 0 else 1) < 30 := by
      simp only [List.length_cons, List.length_nil, List.isEmpty_nil] at hn ⊢
      simp
      omega
    rw [decide_eq_true this]
    rfl
  subst h1
  exact pe_bm PySem.F.plainAttrs_dict PySem.F.slot_dict_get PySem.F.type_dict_get (mt_get_ok hu) ho ha (att_base hb _ _) few hl he hpl
/-! ### isinstance -/
theorem isi_one {X : Cx} {P : Prog} {N : List Str} {sc : Scope} (C : CxOk P call k N sc X) {a : E} {ts : List Ty} {y c : Expr} {nm : Str} {p np : Pos} (hn : nm = ("isinstance" : Str)) (hg : isGlo sc nm = true) (hk : nameOk nm = true) (hne : ts ≠ []) (hfew : ts.length ≤ 1000) (ht : chkTy sc ts c = true) (hs : noStar y = true)
    (sa : PE X y (rdE X.K (evalE P call a))) : PE X (.Call (.Name nm np) [y, c] [] p) (rdE X.K (evalE P call (.isi a ts))) := by
  obtain ⟨d1, d2, d3⟩ := nameOk_d hk
  have hm : X.mg nm = none := C.g.free nm (by rw [hn]; decide)
  have hb : bootBuiltins nm = some (.builtin "isinstance") := by rw [hn]; decide +kernel
  have dec : ∀ {σ : L2.St} {H : Hp} {Q : VK}, rdE X.K (evalE P call (.isi a ts)) σ H Q → rdE X.K (evalE P call a) σ H fun v H1 => ∃ R T x d T', StOk X.K R T H1 ∧ Rep X.K R H1 x v ∧ isiD x ts T = .ok d T' ∧ Post X.K R H1 d T' Q := by
    intro σ H Q q
    obtain ⟨R, T, env, d, T', st, en, e, po⟩ := q
    refine rd_then (f := fun _ x => isiD x ts) st en e fun x T1 R1 H1 v e1 l1 s1 en1 r1 => ?_
    exact ⟨R1, T1, x, d, T', s1, r1, e1, po.later l1⟩
  by_cases htup : ∃ es kk tp, c = .Tuple es kk tp
  · obtain ⟨es, kk, tp, rfl⟩ := htup
    have hall : chkTy.all sc ts es = true := by
      cases ts with
      | nil => exact absurd rfl hne
      | cons t ts => cases ts <;> exact ht
    have pa := pa_cons sa (pa_cons (pe_tup (x1 := kk) (pos := tp) (ty_pa C hall)) pa_nil rfl) (star_no hs _ X.env)
    refine PE.weak (pe_callB call_isiT (C.gl hg) hm hb pa d3 d1 (star_no hs _ X.env) rfl) fun σ H Q q => ?_
    refine (show rdE X.K (evalE P call a) σ H _ from ?_)
    obtain ⟨R, T, env, d, T', st, en, e, po⟩ := dec q
    refine ⟨R, T, env, d, T', st, en, e, fun R1 H1 v l1 s1 r1 => ?_⟩
    obtain ⟨R2, T2, x, d2, T3, s2, r2, e2, po2⟩ := po R1 H1 v l1 s1 r1
    obtain ⟨b, e3, rfl, rfl⟩ := optB_ok e2
    obtain ⟨n, ty, kit, _⟩ := ty_of s2 r2 (isi_some hne e3)
    refine ⟨by rw [List.length_map]; exact Nat.le_trans hfew (by decide), fun t hp => ?_⟩
    obtain ⟨l3, s3⟩ := s2.newFz (o := .tup (ts.map fun t => V.ty (tyS t))) hp
    obtain ⟨n', ty', kit', _⟩ := ty_of s3 (Rep.mono l3 _ _ r2) (isi_some hne e3)
    exact ⟨v, t, _, _, _, b, rfl, upd_same, tys_paired ts, ty', isi_go kit' ts b e3, po2 _ _ _ l3 s3 rfl⟩
  · match ts, c, ht with
    | [t], .Name x q, ht =>
      simp only [chkTy, Bool.and_eq_true, decide_eq_true_eq] at ht
      have pa := pa_cons sa (pa_cons (ty_pe C (p := q) ht.1.1 ht.1.2 ht.2) pa_nil rfl) (star_no hs _ X.env)
      refine PE.weak (pe_callB call_isi (C.gl hg) hm hb pa d3 d1 (star_no hs _ X.env) rfl) fun σ H Q q => ?_
      obtain ⟨R, T, env, d, T', st, en, e, po⟩ := dec q
      refine ⟨R, T, env, d, T', st, en, e, fun R1 H1 v l1 s1 r1 => ?_⟩
      obtain ⟨R2, T2, x, d2, T3, s2, r2, e2, po2⟩ := po R1 H1 v l1 s1 r1
      obtain ⟨b, e3, rfl, rfl⟩ := optB_ok e2
      obtain ⟨n, ty, kit, _⟩ := ty_of s2 r2 (isi_some hne e3)
      have e4 : tyD T2 x t = some b := by
        unfold isiD.go at e3
        cases e5 : tyD T2 x t with
        | none => rw [e5] at e3; cases e3
        | some c =>
          rw [e5] at e3
          have : (some (c || false) : Option Bool) = some b := e3
          rw [Bool.or_false] at this
          exact this
      exact ⟨v, _, _, _, b, rfl, .ty _, ty, kit t b e4, Post.now s2 po2 rfl⟩
    | t, .Tuple es kk tp, _ => exact absurd ⟨es, kk, tp, rfl⟩ htup
/-! ### calls with keywords -/
theorem look_rel {ks : List Str} : ∀ {zs : List V} {ws : List Value} {p : Str}, Vals zs ws → RelO ((ks.zip zs).lookup p) ((ks.zip ws).lookup p) := by
  induction ks with
  | nil => intro zs ws p r; cases r <;> trivial
  | cons c ks ih =>
    intro zs ws p r
    cases r with
    | nil => trivial
    | @cons z w zs ws r1 r2 =>
      rw [List.zip_cons_cons, List.zip_cons_cons, List.lookup_cons, List.lookup_cons]
      cases (p == c) with
      | true => exact r1
      | false => exact ih r2
theorem kw_rel {ps ks : List Str} {vs : List V} {us : List Value} {zs : List V} {ws : List Value} (r : Vals vs us) (q : Vals zs ws) : Vals (kwG ps ks vs zs) (kwG ps ks us ws) := by
  unfold kwG
  refine r.append ?_
  rw [r.length]
  generalize ps.drop us.length = l
  induction l with
  | nil => exact .nil
  | cons p l ih =>
    rw [List.filterMap_cons, List.filterMap_cons]
    have h := look_rel (ks := ks) (p := p) q
    cases e1 : (ks.zip zs).lookup p with
    | none =>
      rw [e1] at h
      cases e2 : (ks.zip ws).lookup p with
      | none => exact ih
      | some w => rw [e2] at h; exact h.elim
    | some z =>
      rw [e1] at h
      cases e2 : (ks.zip ws).lookup p with
      | none => rw [e2] at h; exact h.elim
      | some w => rw [e2] at h; exact .cons h ih
theorem kw_reps {K : PySem.W.Frag} {R : Rho} {H : Hp} {ps ks : List Str} {xs : List D} {vs : List V} {ys : List D} {zs : List V} (r : Reps K R H xs vs) (q : Reps K R H ys zs) : Reps K R H (kwG ps ks xs ys) (kwG ps ks vs zs) := by
  have look : ∀ p, (∃ d v, (ks.zip ys).lookup p = some d ∧ (ks.zip zs).lookup p = some v ∧ Rep K R H d v) ∨ ((ks.zip ys).lookup p = none ∧ (ks.zip zs).lookup p = none) := by
    intro p
    induction ks generalizing ys zs with
    | nil => exact .inr ⟨rfl, rfl⟩
    | cons c ks ih =>
      cases ys with
      | nil => cases q; exact .inr ⟨rfl, rfl⟩
      | cons y ys =>
        obtain ⟨z, zs', rfl, q1, q2⟩ := q
        rw [List.zip_cons_cons, List.zip_cons_cons, List.lookup_cons, List.lookup_cons]
        cases (p == c) with
        | true => exact .inl ⟨y, z, rfl, rfl, q1⟩
        | false => exact ih q2
  unfold kwG
  refine r.append ?_
  rw [r.length]
  generalize ps.drop xs.length = l
  induction l with
  | nil => exact rfl
  | cons p l ih =>
    rw [List.filterMap_cons, List.filterMap_cons]
    rcases look p with ⟨d, v, e1, e2, h⟩ | ⟨e1, e2⟩
    · rw [e1, e2]; exact Reps.cons h ih
    · rw [e1, e2]; exact ih
theorem call_kw {X : Cx} {P : Prog} {N : List Str} {sc : Scope} (C : CxOk P call k N sc X) {f : Nat} {fn : Fn} (e0 : P.fns[f]? = some fn) (htop : topN P f fn.name = true) {ea ek : Env → M (List D)} {xs : List Expr} {kwl : List Keyword} {ks : List Str} {nm : Str} {np p : Pos} (hnm : fn.name = nm) (hg : isGlo sc nm = true) (hk : nameOk nm = true)
    (hks : kwl.map (·.arg) = ks.map some) (pa : PA X xs (rdA X.K ea)) (pk : PK X kwl (rdA X.K ek)) (hst : (xs = [] ∧ ∀ env T ds T1, ea env T = .ok ds T1 → ds = [] ∧ T1 = T) ∨ ∃ y ys, xs = y :: ys ∧ starEach (y :: ys) X.env = (false, eval y X.env) :: starEach ys X.env) (hpl : (backTo p (starEach xs X.env)).any (·.1) = false) :
    PE X (.Call (.Name nm np) xs kwl p) (rdE X.K fun env => do
      let ds ← ea env
      let ws ← ek env
      match bindOk fn.ps ds.length ks && Nat.beq ws.length ks.length && fn.kws.contains ks with
      | true => call f (kwG fn.ps ks ds ws)
      | false => fail) := by
  subst hnm
  obtain ⟨d1, d2, d3⟩ := nameOk_d hk
  obtain ⟨fn', ad, fd, e0', hnn, hm, hkp, hF, hb, hkb⟩ := C.f.top htop
  rw [e0] at e0'
  cases e0'
  obtain ⟨k1, k2, k3⟩ := none_kw (pos := p) (env := X.env) hks
  have hpl2 : ((backTo p (starEach xs X.env)).any (·.1) || (backToKw p (keywordEach kwl X.env)).any (·.1.isNone)) = false := by rw [hpl, k3]; rfl
  refine ⟨fun pins s σ H Q I q => ?_⟩
  obtain ⟨R, T, env, d, T', st, en, e, po⟩ := q
  -- what is left once both lists are there
  have fin : ∀ {ds : List D} {ws : List D} {T2 : Store} {R2 : Rho} {H2 : Hp} {vs zs : List V} {us us2 : List Value} {s2 : Shared}, (match bindOk fn.ps ds.length ks && Nat.beq ws.length ks.length && fn.kws.contains ks with
      | true => call f (kwG fn.ps ks ds ws)
      | false => fail) T2 = .ok d T' → Le R H R2 H2 → StOk X.K R2 T2 H2 → Reps X.K R2 H2 ds vs → Reps X.K R2 H2 ws zs → Vals vs us → Vals zs us2 → Inv X pins σ H2 s2 → wpAny (model X.prog X.w) X.A (PySem.call (.ref ad) us (ks.zip us2)) (EP X pins σ Q) X.xe s2 := by
    intro ds ws T2 R2 H2 vs zs us us2 s2 e3 l2 s2' r1 r2 v1 v2 I2
    cases hbk : bindOk fn.ps ds.length ks && Nat.beq ws.length ks.length && fn.kws.contains ks with
    | false => rw [hbk] at e3; cases e3
    | true =>
      rw [hbk] at e3
      simp only [Bool.and_eq_true] at hbk
      have m1 : us.length = ds.length := by rw [← v1.length, r1.length]
      have m2 : us2.length = ks.length := by rw [← v2.length, r2.length]; exact Nat.eq_of_beq_eq_true hbk.1.2
      have bt := hkb ks (List.contains_iff_mem.mp hbk.2) ds.length s2 us us2 m1 m2 hbk.1.1
      have rr := kw_rel (ps := fn.ps) (ks := ks) v1 v2
      have sp : spF X.K fn.ps.length (call f) (kwG fn.ps ks vs zs) H2 Q E0 := by
        have rp := kw_reps (ps := fn.ps) (ks := ks) r1 r2
        exact ⟨by rw [rp.length]; exact C.f.len f fn e0 _ _ _ _ e3, R2, T2, _, d, T', s2', rp, e3, po.later l2⟩
      refine wpAny_call (codeAny_mono (hF.run X.A X.stack s2 H2 ⟨us, ks.zip us2⟩ _ _ Q E0 C.hr I2.env0 bt rr sp) fun r s' hq => ?_)
      cases r with
      | error z => exact hq.elim
      | ok fl =>
        cases fl with
        | ret u => exact I2.after hq
        | _ => exact hq.elim
  refine wpAny_Call_Name_kw (ld_glob I (C.gl hg) hm ?_ d1)
  obtain ⟨ds, T1, e1, e2⟩ := bind_ok e
  have kwrun : ∀ {R1 : Rho} {H1 : Hp} {vs : List V} {us : List Value} {s1 : Shared}, Le R H R1 H1 → StOk X.K R1 T1 H1 → Reps X.K R1 H1 ds vs → Vals vs us → Inv X pins σ H1 s1 →
      wpAny (model X.prog X.w) X.A (evalAll ((backToKw p (keywordEach kwl X.env)).map (·.2))) (fun ws s2 => X.K.In s2.heap ∧ wpAny (model X.prog X.w) X.A (PySem.call (.ref ad) us (((backToKw p (keywordEach kwl X.env)).filterMap (·.1)).zip ws)) (EP X pins σ Q) X.xe s2) X.xe s1 := by
    intro R1 H1 vs us s1 l1 st1 r1 v1 I1
    obtain ⟨ws, T2, e3, e4⟩ := bind_ok e2
    refine thn (pk.run p pins s1 σ H1 (fun zs H2 => ∃ R2, Le R H R2 H2 ∧ StOk X.K R2 T2 H2 ∧ Reps X.K R2 H2 ds vs ∧ Reps X.K R2 H2 ws zs) I1 ⟨R1, T1, env, ws, T2, st1, en.mono l1, e3, fun R2 H2 zs l2 s2 r2 => ⟨R2, l1.trans l2, s2, Reps.mono l2 _ _ r1, r2⟩⟩) fun us2 s2 hh => ?_
    obtain ⟨zs, H2, I2, v2, R2, l2, s2', q1, q2⟩ := hh
    rw [k2]
    exact ⟨I2.kIn, fin e4 l2 s2' q1 q2 v1 v2 I2⟩
  rcases hst with ⟨rfl, hz⟩ | ⟨y, ys, rfl, hst⟩
  · obtain ⟨rfl, rfl⟩ := hz _ _ _ _ e1
    exact PySem.W.callWith_KW0 (h₀ := X.base) (first := []) I.ok.mod.kin hkp k1 (kwrun (Le.refl _ _) st rfl .nil I) hpl2
  · refine PySem.W.callWith_KW (h₀ := X.base) (first := []) I.ok.mod.kin hkp k1 ?_ hpl2 hst
    refine thn (pa.run p pins s σ H (fun vs H1 => ∃ R1, Le R H R1 H1 ∧ StOk X.K R1 T1 H1 ∧ Reps X.K R1 H1 ds vs) I ⟨R, T, env, ds, T1, st, en, e1, fun R1 H1 vs l1 s1 r1 => ⟨R1, l1, s1, r1⟩⟩) fun us s1 hh => ?_
    obtain ⟨vs, H1, I1, v1, R1, l1, s1', r1⟩ := hh
    exact kwrun l1 s1' r1 v1 I1
theorem snd_bin {X : Cx} {op : BOp} {a b : E} {l r : Expr} {p : Pos} (sa : PE X l (rdE X.K (evalE P call a))) (sb : PE X r (rdE X.K (evalE P call b))) : Snd P call X (E.bin op a b) (.BinOp l (bopP op) r p) := by
  have pe : PE X (.BinOp l (bopP op) r p) (rdE X.K (evalE P call (.bin op a b))) := PE.weak (pe_op (op_ok op) sa sb) (fun σ H Q q => rd_op q)
  refine Snd.mk pe (PT.weak (pt_val pe fun _ => rfl) fun σ H Q q => rd_test q) (fun _ _ _ z => (by cases z)) (fun z => ?_)
  cases op <;> first | (cases z; done) | skip
  · exact PE.weak (pe_op opF_add sa sb) fun σ H Q q => rdF_op q
  · exact PE.weak (pe_op opF_mul sa sb) fun σ H Q q => rdF_op q

/-! what is shown of the parts -/
def SE (P : Prog) (call : Nat → List D → M D) (k : Nat) (e : E) : Prop := ∀ (x : Expr) (N : List Str) (sc : Scope) (X : Cx), CxOk P call k N sc X → chkE P N sc e x = true → Snd P call X e x
def SEs (P : Prog) (call : Nat → List D → M D) (k : Nat) (es : List E) : Prop := ∀ (xs : List Expr) (N : List Str) (sc : Scope) (X : Cx), CxOk P call k N sc X → chkEs P N sc es xs = true → PA X xs (rdA X.K (evalEs P call es))
def SSt (P : Prog) (call : Nat → List D → M D) (k : Nat) (es : List E) : Prop := ∀ (fs : List Bool) (xs : List Expr) (N : List Str) (sc : Scope) (X : Cx), CxOk P call k N sc X → chkSt P N sc es fs xs = true → PA X xs (rdA X.K (evalSs P call es fs))
def SK (P : Prog) (call : Nat → List D → M D) (k : Nat) (es : List E) : Prop := ∀ (xs : List Keyword) (N : List Str) (sc : Scope) (X : Cx), CxOk P call k N sc X → chkEs P N sc es (xs.map (·.value)) = true → PK X xs (rdA X.K (evalEs P call es))
def SO (P : Prog) (call : Nat → List D → M D) (k : Nat) (e : Option E) : Prop := ∀ (x : Option Expr) (N : List Str) (sc : Scope) (X : Cx), CxOk P call k N sc X → chkO P N sc e x = true → PO X x (rdO X.K (evalO P call e))
def SC (P : Prog) (call : Nat → List D → M D) (k : Nat) (e : Option E) : Prop := ∀ (x : List Expr) (N : List Str) (sc : Scope) (X : Cx), CxOk P call k N sc X → chkC P N sc e x = true → PTs X x (rdT X.K (evalC P call e))
def SI (P : Prog) (call : Nat → List D → M D) (k : Nat) (it : I) : Prop := ∀ (tg iter : Expr) (N : List Str) (sc : Scope) (X : Cx), CxOk P call k N sc X → chkI P N sc it tg iter = true → PI X tg iter (rdI X.K (evalI P call it))
theorem sEs : ∀ {es : List E}, (∀ e ∈ es, SE P call k e) → SEs P call k es
  | [], _ => fun xs N sc X C h => by
    cases xs with
    | nil => exact PA.weak pa_nil fun σ H Q q => rd_nil q
    | cons _ _ => cases h
  | e :: es, ih => fun xs N sc X C h => by
    cases xs with
    | nil => cases h
    | cons x xs =>
      simp only [chkEs, Bool.and_eq_true] at h
      exact PA.weak (pa_cons (ih e List.mem_cons_self x N sc X C h.1.2).pe (sEs (fun e he => ih e (List.mem_cons_of_mem _ he)) xs N sc X C h.2) (star_no h.1.1 xs X.env)) fun σ H Q q => rd_cons q
theorem sSt : ∀ {es : List E}, (∀ e ∈ es, SE P call k e) → SSt P call k es
  | [], _ => fun fs xs N sc X C h => by
    cases fs with
    | cons _ _ => cases h
    | nil =>
      cases xs with
      | nil => exact PA.weak pa_nil fun σ H Q q => rd_nil q
      | cons _ _ => cases h
  | e :: es, ih => fun fs xs N sc X C h => by
    have ihs := sSt fun e he => ih e (List.mem_cons_of_mem _ he)
    have ihe := ih e List.mem_cons_self
    cases fs with
    | nil => cases h
    | cons f fs =>
      cases f with
      | true =>
        cases xs with
        | nil => cases h
        | cons x xs =>
          cases x <;> first | (cases h; done) | skip
          simp only [chkSt, Bool.and_eq_true] at h
          exact PA.weak (StX.pa_star (ihe _ N sc X C h.1).pe (ihs fs xs N sc X C h.2) rfl) fun σ H Q q => rd_star q
      | false =>
        cases xs with
        | nil => cases h
        | cons x xs =>
          simp only [chkSt, Bool.and_eq_true] at h
          exact PA.weak (pa_cons (ihe x N sc X C h.1.2).pe (ihs fs xs N sc X C h.2) (star_no h.1.1 xs X.env)) fun σ H Q q => rd_cons q
theorem sK : ∀ {es : List E}, (∀ e ∈ es, SE P call k e) → SK P call k es
  | [], _ => fun xs N sc X C h => by
    cases xs with
    | nil => exact ⟨fun pos pins s σ H Q I q => pk_nil.run pos pins s σ H Q I (rd_nil q)⟩
    | cons _ _ => cases h
  | e :: es, ih => fun xs N sc X C h => by
    have ihs := sK fun e he => ih e (List.mem_cons_of_mem _ he)
    have ihe := ih e List.mem_cons_self
    cases xs with
    | nil => cases h
    | cons q xs =>
      obtain ⟨nm, x, kp⟩ := q
      rw [List.map_cons] at h
      simp only [chkEs, Bool.and_eq_true] at h
      exact ⟨fun pos pins s σ H Q I q => (pk_cons (ihe x N sc X C h.1.2).pe (ihs xs N sc X C h.2)).run pos pins s σ H Q I (rd_cons q)⟩
theorem sO : ∀ {e : Option E}, (∀ a, e = some a → SE P call k a) → SO P call k e
  | none, _ => fun x N sc X C h => by
    cases x with
    | some _ => cases h
    | none => exact ⟨fun pins s σ H Q I q => po_none.run pins s σ H Q I (rd_nopart q)⟩
  | some e, ih => fun x N sc X C h => by
    cases x with
    | none => cases h
    | some x => exact ⟨fun pins s σ H Q I q => (po_some (ih e rfl x N sc X C h).pe).run pins s σ H Q I (rd_part q)⟩
theorem sC : ∀ {e : Option E}, (∀ a, e = some a → SE P call k a) → SC P call k e
  | none, _ => fun x N sc X C h => by
    cases x with
    | cons _ _ => cases h
    | nil =>
      refine ⟨fun pins s σ H Q I q => pts_nil.run pins s σ H Q I ?_⟩
      obtain ⟨R, T, env, b, T', st, en, e, po⟩ := q
      obtain ⟨rfl, rfl⟩ := pure_ok e
      exact po R H (Le.refl _ _) st
  | some e, ih => fun x N sc X C h => by
    cases x with
    | nil => cases h
    | cons y ys =>
      cases ys with
      | cons _ _ => cases h
      | nil => exact pts_one (ih e rfl y N sc X C h).pt
end
end Pz

set_option Elab.async false
set_option linter.all false
set_option maxRecDepth 100000
set_option maxHeartbeats 8000000
namespace Pz
open PySem PySem.Spec L2
section
variable {P : Prog} {call : Nat → List D → M D} {k : Nat}
theorem sE_non   : SE P call k (.non) := fun x N sc X C h => by
    cases x <;> first | (cases h; done) | skip
    rename_i c j p
    cases c <;> first | (cases h; done) | skip
    refine .plain (PE.weak pe_non fun σ H Q q => ?_) rfl rfl
    obtain ⟨R, T, env, d, T', st, en, e, po⟩ := q
    obtain ⟨rfl, rfl⟩ := pure_ok e
    exact Post.now st po rfl

theorem sE_bl {b : Bool}  : SE P call k (.bl b) := fun x N sc X C h => by
    cases x <;> first | (cases h; done) | skip
    rename_i c j p
    cases c <;> first | (cases h; done) | skip
    simp only [chkE, beq_iff_eq] at h
    subst h
    refine .plain (PE.weak pe_bl fun σ H Q q => ?_) rfl rfl
    obtain ⟨R, T, env, d, T', st, en, e, po⟩ := q
    obtain ⟨rfl, rfl⟩ := pure_ok e
    exact Post.now st po rfl

theorem sE_int {i : Int}  : SE P call k (.int i) := fun x N sc X C h => by
    cases x <;> first | (cases h; done) | skip
    rename_i c j p
    cases c <;> first | (cases h; done) | skip
    simp only [chkE, decide_eq_true_eq] at h
    subst h
    refine .plain (PE.weak pe_int fun σ H Q q => ?_) rfl rfl
    obtain ⟨R, T, env, d, T', st, en, e, po⟩ := q
    obtain ⟨rfl, rfl⟩ := pure_ok e
    exact Post.now st po rfl

theorem sE_str {z : Str}  : SE P call k (.str z) := fun x N sc X C h => by
    cases x <;> first | (cases h; done) | skip
    rename_i c j p
    cases c <;> first | (cases h; done) | skip
    simp only [chkE, decide_eq_true_eq] at h
    subst h
    refine .plain (PE.weak pe_str fun σ H Q q => ?_) rfl rfl
    obtain ⟨R, T, env, d, T', st, en, e, po⟩ := q
    obtain ⟨rfl, rfl⟩ := pure_ok e
    exact Post.now st po rfl

theorem sE_var {i : Nat}  : SE P call k (.var i) := fun x N sc X C h => by
    cases x <;> first | (cases h; done) | skip
    simp only [chkE, Bool.and_eq_true, decide_eq_true_eq] at h
    obtain ⟨d1, d2, d3⟩ := nameOk_d h.2
    refine .plain (PE.weak (pe_var (i := i) (by rw [C.n]; exact h.1.1) (by rw [C.sc]; exact vis_of h.1.2) d1 d2) fun σ H Q q => ?_) rfl rfl
    obtain ⟨R, T, env, d, T', st, en, e, po⟩ := q
    replace e : varD env[i]? T = .ok d T' := e
    cases e1 : env[i]? with
    | none => rw [e1] at e; cases e
    | some o =>
      cases o with
      | none => rw [e1] at e; cases e
      | some d' =>
        rw [e1] at e
        obtain ⟨rfl, rfl⟩ := pure_ok e
        obtain ⟨v, e2, r⟩ := en.2 i _ e1
        exact ⟨v, e2, Post.now st po r⟩

theorem sE_glo {j : Nat}  : SE P call k (.glo j) := fun x N sc X C h => by
    cases x <;> first | (cases h; done) | skip
    rename_i nm p
    simp only [chkE, Bool.and_eq_true, decide_eq_true_eq] at h
    obtain ⟨d1, d2, d3⟩ := nameOk_d h.2
    obtain ⟨⟨nm', d0⟩, e0, e1⟩ := Option.map_eq_some_iff.mp h.1.1
    cases e1
    obtain ⟨v, u, hm, r, hr⟩ := C.g.cns j _ d0 e0
    refine .plain (PE.weak (pe_glob (C.gl h.1.2) hm r d1) fun σ H Q q => ?_) rfl rfl
    obtain ⟨R, T, env, d, T', st, en, e, po⟩ := q
    simp only [evalE, e0] at e
    obtain ⟨rfl, rfl⟩ := pure_ok e
    exact Post.now st po (hr R H)

theorem sE_bin {op : BOp} {a : E} {b : E} (ih_a : SE P call k a) (ih_b : SE P call k b) : SE P call k (.bin op a b) := fun x N sc X C h => by
    cases x <;> first | (cases h; done) | skip
    simp only [chkE, Bool.and_eq_true, decide_eq_true_eq] at h
    have sa := (ih_a _ N sc X C h.1.2).pe
    have sb := (ih_b _ N sc X C h.2).pe
    have ho := h.1.1
    subst ho
    exact snd_bin sa sb

theorem sE_neg {a : E} (ih_a : SE P call k a) : SE P call k (.neg a) := fun x N sc X C h => by
    cases x <;> first | (cases h; done) | skip
    simp only [chkE, Bool.and_eq_true, decide_eq_true_eq] at h
    have ho := h.1
    subst ho
    exact .plain (PE.weak (pe_un un_neg_ok (ih_a _ N sc X C h.2).pe) fun σ H Q q => rd_un q) rfl rfl

theorem sE_not {a : E} (ih_a : SE P call k a) : SE P call k (.not a) := fun x N sc X C h => by
    cases x <;> first | (cases h; done) | skip
    simp only [chkE, Bool.and_eq_true, decide_eq_true_eq] at h
    have ho := h.1
    subst ho
    have s := ih_a _ N sc X C h.2
    exact ⟨PE.weak (pe_not s.pe) fun σ H Q q => rd_not q, PT.weak (pt_not s.pt) fun σ H Q q => rdT_not q, fun _ _ _ z => (by cases z), fun z => (by cases z)⟩

theorem sE_cmp {op : COp} {a : E} {b : E} (ih_a : SE P call k a) (ih_b : SE P call k b) : SE P call k (.cmp op a b) := fun x N sc X C h => by
    cases x <;> first | (cases h; done) | skip
    rename_i l ops cs p
    cases ops with
    | nil => cases h
    | cons o ops =>
      cases ops with
      | cons _ _ => cases h
      | nil =>
        cases cs with
        | nil => cases h
        | cons y cs =>
          cases cs with
          | cons _ _ => cases h
          | nil =>
            simp only [chkE, Bool.and_eq_true, decide_eq_true_eq] at h
            obtain ⟨⟨⟨ho, hs⟩, h1⟩, h2⟩ := h
            subst ho
            have sa := (ih_a _ N sc X C h1).pe
            have sb := (ih_b _ N sc X C h2).pe
            refine ⟨PE.weak (pe_cmpR (cmp_ok C.hu op) sa sb (no_marks hs)) fun σ H Q q => rd_op q, PT.weak (pt_cmpR (cmp_ok C.hu op) sa sb (no_marks hs)) fun σ H Q q => ?_, fun _ _ _ z => (by cases z), fun z => (by cases z)⟩
            obtain ⟨R, T, env, b', T', st, en, e, po⟩ := q
            obtain ⟨x', T1, e1, e2⟩ := bind_ok e
            obtain ⟨rfl, rfl⟩ := boolD_ok e2
            exact rd_op ⟨R, T, env, .bl b', T1, st, en, e1, fun R1 H1 v l1 s1 r1 => ⟨b', r1, po R1 H1 l1 s1⟩⟩

theorem sE_cmp2 {op : COp} {op' : COp} {a : E} {b : E} {c : E} (ih_a : SE P call k a) (ih_b : SE P call k b) (ih_c : SE P call k c) : SE P call k (.cmp2 op op' a b c) := fun x N sc X C h => by
    cases x <;> first | (cases h; done) | skip
    rename_i l ops cs p
    match ops, cs, h with
    | [o, o'], [y, z], h =>
      simp only [chkE, Bool.and_eq_true, decide_eq_true_eq] at h
      obtain ⟨⟨⟨⟨⟨ho, ho'⟩, hs⟩, h1⟩, h2⟩, h3⟩ := h
      subst ho
      subst ho'
      have sa := (ih_a _ N sc X C h1).pe
      have sb := (ih_b _ N sc X C h2).pe
      have sc' := (ih_c _ N sc X C h3).pe
      refine ⟨PE.weak (pe_chain (cmp_ok C.hu op) (cmp_ok C.hu op') sa sb sc' (no_marks2 hs)) fun σ H Q q => rd_chain q, PT.weak (pt_chain (cmp_ok C.hu op) (cmp_ok C.hu op') sa sb sc' (no_marks2 hs)) fun σ H Q q => ?_, fun _ _ _ z => (by cases z), fun z => (by cases z)⟩
      obtain ⟨R, T, env, b', T', st, en, e, po⟩ := q
      obtain ⟨x', T1, e1, e2⟩ := bind_ok e
      obtain ⟨rfl, rfl⟩ := boolD_ok e2
      exact rd_chain ⟨R, T, env, .bl b', T1, st, en, e1, fun R1 H1 v l1 s1 r1 => ⟨b', r1, po R1 H1 l1 s1⟩⟩

theorem sE_and {a : E} {b : E} (ih_a : SE P call k a) (ih_b : SE P call k b) : SE P call k (.and a b) := fun x N sc X C h => by
    cases x <;> first | (cases h; done) | skip
    rename_i o vs p
    match vs, h with
    | y :: z :: r, h =>
      simp only [chkE, Bool.and_eq_true, decide_eq_true_eq] at h
      obtain ⟨⟨ho, h1⟩, h2⟩ := h
      subst ho
      have sa := ih_a _ N sc X C h1
      have sb := ih_b _ N sc X C h2
      have rest : PE X (.BoolOp .And (z :: r) p) (rdE X.K (evalE P call b)) ∧ PW X (.BoolOp .And (z :: r) p) (rdT X.K (evalT P call b)) := by
        cases r with
        | nil => exact ⟨pe_one sb.pe, pw_and1 sb.pt⟩
        | cons u r => exact ⟨sb.pe, sb.pw _ _ _ rfl⟩
      have w : PW X (.BoolOp .And (y :: z :: r) p) (rdT X.K (evalT P call (.and a b))) := PW.weak (pw_and sa.pt rest.2) fun σ H Q q => rdT_and q
      exact ⟨PE.weak (pe_and sa.pe rest.1) fun σ H Q q => rd_and q, w.pt, fun _ _ _ _ => w, fun z => (by cases z)⟩

theorem sE_or {a : E} {b : E} (ih_a : SE P call k a) (ih_b : SE P call k b) : SE P call k (.or a b) := fun x N sc X C h => by
    cases x <;> first | (cases h; done) | skip
    rename_i o vs p
    match vs, h with
    | y :: z :: r, h =>
      simp only [chkE, Bool.and_eq_true, decide_eq_true_eq] at h
      obtain ⟨⟨ho, h1⟩, h2⟩ := h
      subst ho
      have sa := ih_a _ N sc X C h1
      have sb := ih_b _ N sc X C h2
      have rest : PE X (.BoolOp .Or (z :: r) p) (rdE X.K (evalE P call b)) ∧ PW X (.BoolOp .Or (z :: r) p) (rdT X.K (evalT P call b)) := by
        cases r with
        | nil => exact ⟨pe_one sb.pe, pw_or1 sb.pt⟩
        | cons u r => exact ⟨sb.pe, sb.pw _ _ _ rfl⟩
      have w : PW X (.BoolOp .Or (y :: z :: r) p) (rdT X.K (evalT P call (.or a b))) := PW.weak (pw_or sa.pt rest.2) fun σ H Q q => rdT_or q
      exact ⟨PE.weak (pe_or sa.pe rest.1) fun σ H Q q => rd_or q, w.pt, fun _ _ _ _ => w, fun z => (by cases z)⟩

theorem sE_orT {a : E} {b : E} (ih_a : SE P call k a) (ih_b : SE P call k b) : SE P call k (.orT a b) := fun x N sc X C h => by
    cases x <;> first | (cases h; done) | skip
    rename_i o vs p
    match vs, h with
    | [y, z], h =>
      simp only [chkE, Bool.and_eq_true, decide_eq_true_eq] at h
      obtain ⟨⟨ho, h1⟩, h2⟩ := h
      subst ho
      have sa := ih_a _ N sc X C h1
      have sb := ih_b _ N sc X C h2
      have pe : PE X (.BoolOp .Or [y, z] p) (rdE X.K (evalE P call (.orT a b))) := PE.weak (pe_orT sa.pe (pe_one sb.pe)) fun σ H Q q => rd_orT q
      have w : PW X (.BoolOp .Or [y, z] p) (rdT X.K (evalT P call (.orT a b))) := by
        refine PW.weak (pw_or sa.pt (pw_or1 sb.pt)) fun σ H Q q => ?_
        exfalso
        obtain ⟨R, T, env, b', T', st, en, e, po⟩ := q
        obtain ⟨x', T1, e1, e2⟩ := bind_ok e
        obtain ⟨rfl, rfl⟩ := boolD_ok e2
        obtain ⟨y', T2, e3, e4⟩ := bind_ok (show (evalE P call a env >>= fun x => orTD (evalE P call b env) x) T = .ok _ _ from e1)
        obtain ⟨_, q⟩ := orTD_list e4
        cases q
      exact ⟨pe, w.pt, fun _ _ _ _ => w, fun z => (by cases z)⟩

theorem sE_ite {c : E} {a : E} {b : E} (ih_c : SE P call k c) (ih_a : SE P call k a) (ih_b : SE P call k b) : SE P call k (.ite c a b) := fun x N sc X C h => by
    cases x <;> first | (cases h; done) | skip
    simp only [chkE, Bool.and_eq_true] at h
    have s0 := ih_c _ N sc X C h.1.1
    have sa := ih_a _ N sc X C h.1.2
    have sb := ih_b _ N sc X C h.2
    refine ⟨PE.weak (pe_ifExp s0.pt sa.pe sb.pe) fun σ H Q q => ?_, PT.weak (pt_ifE s0.pt sa.pt sb.pt) fun σ H Q q => rdT_ite q, fun _ _ _ z => (by cases z), fun z => (by cases z)⟩
    refine rd_ite ?_
    obtain ⟨R, T, env, d, T', st, en, e, po⟩ := q
    refine ⟨R, T, env, d, T', st, en, ?_, po⟩
    obtain ⟨y, T1, e1, e2⟩ := bind_ok (show (evalE P call c env >>= fun x => (boolD x >>= fun k => match k with | true => evalE P call a env | false => evalE P call b env)) T = .ok d T' from e)
    obtain ⟨kk, T2, e3, e4⟩ := bind_ok e2
    exact bind_mk (bind_mk e1 e3) e4

theorem sE_tup {es : List E} (ihs_es : SEs P call k es) : SE P call k (.tup es) := fun x N sc X C h => by
    cases x <;> first | (cases h; done) | skip
    exact .plain (PE.weak (pe_tup (ihs_es _ N sc X C h)) fun σ H Q q => rd_tup q) rfl rfl

theorem sE_lst {es : List E} (ihs_es : SEs P call k es) : SE P call k (.lst es) := fun x N sc X C h => by
    cases x <;> first | (cases h; done) | skip
    exact .fresh (PE.weak (pe_lst (ihs_es _ N sc X C h)) fun σ H Q q => rdF_lst q) rfl fun env T d T' ev => alloc_lst (P := P) (call := call) (e := .lst es) rfl (fun _ _ _ z => by cases z) ev

theorem sE_idx {a : E} {i : E} (ih_a : SE P call k a) (ih_i : SE P call k i) : SE P call k (.idx a i) := fun x N sc X C h => by
    cases x <;> first | (cases h; done) | skip
    simp only [chkE, Bool.and_eq_true] at h
    exact .plain (PE.weak (pe_ix (ix_ok C.hu) (ih_a _ N sc X C h.1.2).pe (ih_i _ N sc X C h.2).pe (plain_ix h.1.1)) fun σ H Q q => rd_op q) rfl rfl

theorem sE_slc {a : E} {lo : Option E} {hi : Option E} (ih_a : SE P call k a) (iho_lo : SO P call k lo) (iho_hi : SO P call k hi) : SE P call k (.slc a lo hi) := fun x N sc X C h => by
    cases x <;> first | (cases h; done) | skip
    rename_i y z p
    cases z <;> first | (cases h; done) | skip
    rename_i l u s p2
    cases s with
    | some _ => cases h
    | none =>
      simp only [chkE, Bool.and_eq_true] at h
      exact .plain (PE.weak (pe_slice sl_ok (ih_a _ N sc X C h.1.1).pe (iho_lo _ N sc X C h.1.2) (iho_hi _ N sc X C h.2)) fun σ H Q q => rd_slc q) rfl rfl

theorem sE_call {f : Nat} {args : List E} (ihs_args : SEs P call k args) : SE P call k (.call f args) := fun x N sc X C h => by
    cases x <;> first | (cases h; done) | skip
    rename_i fx xs kws p
    cases fx <;> first | (cases h; done) | skip
    rename_i nm np
    cases kws with
    | cons _ _ => cases h
    | nil =>
      simp only [chkE, Bool.and_eq_true, decide_eq_true_eq] at h
      obtain ⟨⟨⟨hn, hg⟩, hk⟩, ha⟩ := h
      obtain ⟨d1, d2, d3⟩ := nameOk_d hk
      obtain ⟨fn, ad, fd, e0, rfl, hm, hkp, hF, hb, _⟩ := C.f.top hn
      have hl := C.f.len f fn e0
      have pa := ihs_args xs N sc X C ha
      refine .plain ?_ rfl rfl
      cases xs with
      | nil =>
        cases args with
        | cons _ _ => cases ha
        | nil =>
          refine PE.weak (pe_call0 hF C.hr (C.gl hg) hm hkp hb .nil (pass0 (X := X)) d1) fun σ H Q q => ?_
          have := rd_call (E := E0) hl q
          exact rd_nil this
      | cons y ys =>
        have hst := star_no (x := y) (by
          cases args with
          | nil => cases ha
          | cons a r => simp only [chkEs, Bool.and_eq_true] at ha; exact ha.1.1) ys X.env
        have hpl : (backTo p (starEach ys X.env)).any (·.1) = false := by
          cases args with
          | nil => cases ha
          | cons a r => simp only [chkEs, Bool.and_eq_true] at ha; exact (chkEs_star ha.2 p X.env).1
        exact PE.weak (pe_call hF C.hr (C.gl hg) hm hkp hb .nil (pass0 (X := X)) pa d1 hst hpl) fun σ H Q q => rd_call (E := E0) hl q

theorem sE_callK {f : Nat} {args : List E} {ks : List Str} {kws : List E} (ihs_args : SEs P call k args) (ihk_kws : SK P call k kws) : SE P call k (.callK f args ks kws) := fun x N sc X C h => by
    cases x <;> first | (cases h; done) | skip
    rename_i fx xs kwl p
    cases fx <;> first | (cases h; done) | skip
    rename_i nm np
    simp only [chkE, Bool.and_eq_true, decide_eq_true_eq] at h
    obtain ⟨⟨⟨⟨⟨hn, hg⟩, hk⟩, hks⟩, ha⟩, hkw⟩ := h
    obtain ⟨fn, e0, _, hnm⟩ := topN_ok hn
    have pa := ihs_args xs N sc X C ha
    have pk := ihk_kws kwl N sc X C hkw
    refine .plain (PE.weak (call_kw C e0 (by rw [hnm]; exact hn) hnm hg hk hks pa pk ?_ (chkEs_star ha p X.env).1) fun σ H Q q => ?_) rfl rfl
    · cases args with
      | nil =>
        cases xs with
        | cons _ _ => cases ha
        | nil => exact .inl ⟨rfl, fun env T ds T1 e => by obtain ⟨rfl, rfl⟩ := pure_ok e; exact ⟨rfl, rfl⟩⟩
      | cons a r =>
        cases xs with
        | nil => cases ha
        | cons y ys =>
          simp only [chkEs, Bool.and_eq_true] at ha
          exact .inr ⟨y, ys, rfl, star_no ha.1.1 ys X.env⟩
    · obtain ⟨R, T, env, d, T', st, en, e, po⟩ := q
      refine ⟨R, T, env, d, T', st, en, ?_, po⟩
      obtain ⟨ds, T1, e1, e2⟩ := bind_ok (show (evalEs P call args env >>= fun ds => (evalEs P call kws env >>= fun ws => match P.fns[f]? with
        | some fn => match bindOk fn.ps ds.length ks && Nat.beq ws.length ks.length && fn.kws.contains ks with
          | true => call f (kwG fn.ps ks ds ws)
          | false => fail
        | none => fail)) T = .ok d T' from e)
      obtain ⟨ws, T2, e3, e4⟩ := bind_ok e2
      rw [e0] at e4
      exact bind_mk e1 (bind_mk e3 e4)

theorem sE_blt {b : Blt} {args : List E} (ihs_args : SEs P call k args) : SE P call k (.blt b args) := fun x N sc X C h => by
    cases x <;> first | (cases h; done) | skip
    rename_i fx xs kws p
    cases fx <;> first | (cases h; done) | skip
    rename_i nm np
    cases kws with
    | cons _ _ => cases h
    | nil =>
      simp only [chkE, Bool.and_eq_true, decide_eq_true_eq] at h
      obtain ⟨⟨⟨⟨hn, hg⟩, hk⟩, hne⟩, ha⟩ := h
      have pa := ihs_args xs N sc X C ha
      cases xs with
      | nil => cases hne
      | cons y ys =>
        cases args with
        | nil => cases ha
        | cons a r =>
          have ha2 := ha
          simp only [chkEs, Bool.and_eq_true] at ha2
          have hst := star_no ha2.1.1 ys X.env
          have hpl := (chkEs_star ha2.2 p X.env).1
          by_cases hb : b ≠ .sortedSet ∧ b ≠ .lenSet
          · have pe : PE X (.Call (.Name nm np) (y :: ys) [] p) (rdE X.K (evalE P call (.blt b (a :: r)))) := PE.weak (blt_pe C hn hg hk hb pa hst hpl) fun σ H Q q => rd_cl q
            refine ⟨pe, PT.weak (pt_val pe fun _ => rfl) fun σ H Q q => rd_test q, fun _ _ _ z => (by cases z), fun z => ?_⟩
            cases b <;> first | (cases z; done) | skip
            obtain ⟨d1, d2, d3⟩ := nameOk_d hk
            have hm : X.mg nm = none := C.g.free nm (by rw [hn]; decide)
            exact PE.weak (pe_callTy clF_list (C.gl hg) hm (by rw [hn]; decide +kernel) pa d3 d1 hst hpl) fun σ H Q q => rdF_cl q
          · refine .plain ⟨fun pins s σ H Q I q => ?_⟩ rfl ?_
            · exfalso
              obtain ⟨R, T, env, d, T', st, en, e, po⟩ := q
              obtain ⟨ds, T1, e1, e2⟩ := bind_ok e
              have : b = .sortedSet ∨ b = .lenSet := by
                by_cases h1 : b = .sortedSet
                · exact .inl h1
                · exact .inr (Classical.byContradiction fun h2 => hb ⟨h1, h2⟩)
              rcases this with rfl | rfl
              all_goals
                cases ds with
                | nil => cases e2
                | cons u us =>
                  cases us with
                  | nil => cases e2
                  | cons w ws =>
                    cases ws with
                    | nil => cases e2
                    | cons _ _ => cases e2
            · cases b <;> first | rfl | (exact absurd ⟨by decide, by decide⟩ hb)

theorem sE_isi {a : E} {ts : List Ty} (ih_a : SE P call k a) : SE P call k (.isi a ts) := fun x N sc X C h => by
    cases x <;> first | (cases h; done) | skip
    rename_i fx xs kws p
    cases fx <;> first | (cases h; done) | skip
    rename_i nm np
    match xs, kws, h with
    | [y, c], [], h =>
      simp only [chkE, Bool.and_eq_true, decide_eq_true_eq] at h
      obtain ⟨⟨⟨⟨⟨⟨⟨hn, hg⟩, hk⟩, hne⟩, hfew⟩, ht⟩, hs⟩, ha⟩ := h
      exact .plain (isi_one C hn hg hk (by intro z; subst z; cases hne) (Nat.le_of_ble_eq_true hfew) ht hs (ih_a _ N sc X C ha).pe) rfl rfl

theorem sE_mth {m : Mt} {o : E} {args : List E} (ih_o : SE P call k o) (ihs_args : SEs P call k args) : SE P call k (.mth m o args) := fun x N sc X C h => by
    cases x <;> first | (cases h; done) | skip
    rename_i fx xs kws p
    cases fx <;> first | (cases h; done) | skip
    rename_i ox nm ap
    cases kws with
    | cons _ _ => cases h
    | nil =>
      simp only [chkE, Bool.and_eq_true, decide_eq_true_eq] at h
      obtain ⟨⟨⟨⟨⟨⟨hn, hl⟩, hne⟩, hlt⟩, hc0⟩, ho⟩, ha⟩ := h
      have pa := ihs_args xs N sc X C ha
      have so := (ih_o _ N sc X C ho).pe
      cases xs with
      | nil => cases hne
      | cons y ys =>
        cases args with
        | nil => cases ha
        | cons a r =>
          have ha2 := ha
          simp only [chkEs, Bool.and_eq_true] at ha2
          have hst := star_no ha2.1.1 ys X.env
          have hpl := (chkEs_star ha2.2 p X.env).1
          have hal := (chkEs_star ha p X.env).2
          by_cases hti : m = .tindex
          · subst hti
            subst hn
            exact .plain (tindex_pe hc0 hl (blt_lt hlt) (by simp) so ha pa) rfl rfl
          by_cases hm : m = .append ∨ m = .join ∨ m = .split ∨ m = .count ∨ m = .pop ∨ m = .extend
          · exact .plain (PE.weak (mth_pe hn hm so pa hc0 hl (blt_lt hlt) hst hpl hal) fun σ H Q q => rd_mth hti q) rfl rfl
          · by_cases hg : m = .get
            · subst hg
              exact .plain (PE.weak (get_pe C.hu hn so pa hc0 hl (blt_lt hlt) hst hpl hal) fun σ H Q q => rd_mth hti q) rfl rfl
            · refine .plain ⟨fun pins s σ H Q I q => ?_⟩ rfl rfl
              exfalso
              obtain ⟨R, T, env, d, T', st, en, e, po⟩ := q
              obtain ⟨x1, T1, e1, e2⟩ := bind_ok e
              obtain ⟨_, T2, e3, e4⟩ := bind_ok e2
              obtain ⟨ds, T3, e5, e6⟩ := bind_ok e4
              cases m <;> first | (cases e6; done) | (exact hg rfl) | (exact hti rfl) | (exact hm (by simp))

theorem sE_bad   : SE P call k (.bad) := fun x N sc X C h => snd_bad

theorem sE_att {a : E} {f : Str} (ih_a : SE P call k a) : SE P call k (.att a f) := fun x N sc X C h => snd_att C (fun y hy => ih_a y N sc X C hy) h

theorem sE_meth {a : E} {m : Str} {args : List E} (ih_a : SE P call k a) (ihs_args : SEs P call k args) : SE P call k (.meth a m args) := fun x N sc X C h => snd_meth C (fun y hy => ih_a y N sc X C hy) (fun ys hy => ihs_args ys N sc X C hy) h

theorem sE_make {z : Bool} {c : Str} {args : List E} (ihs_args : SEs P call k args) : SE P call k (.make z c args) := fun x N sc X C h => snd_make C (fun ys hy => ihs_args ys N sc X C hy) h

theorem sE_stat {c : Str} {m : Str} {args : List E} (ihs_args : SEs P call k args) : SE P call k (.stat c m args) := fun x N sc X C h => snd_stat C (fun ys hy => ihs_args ys N sc X C hy) h

theorem sE_callO {a : E} {args : List E} (ih_a : SE P call k a) (ihs_args : SEs P call k args) : SE P call k (.callO a args) := fun x N sc X C h => snd_callO C (fun y hy => ih_a y N sc X C hy) (fun ys hy => ihs_args ys N sc X C hy) h

theorem sE_eqO {neg : Bool} {a : E} {b : E} (ih_a : SE P call k a) (ih_b : SE P call k b) : SE P call k (.eqO neg a b) := fun x N sc X C h => snd_eqO C (fun y hy => ih_a y N sc X C hy) (fun y hy => ih_b y N sc X C hy) h

theorem sE_inO {neg : Bool} {a : E} {b : E} (ih_a : SE P call k a) (ih_b : SE P call k b) : SE P call k (.inO neg a b) := fun x N sc X C h => snd_inO C (fun y hy => ih_a y N sc X C hy) (fun y hy => ih_b y N sc X C hy) h

theorem sE_binO {op : OOp} {a : E} {b : E} (ih_a : SE P call k a) (ih_b : SE P call k b) : SE P call k (.binO op a b) := fun x N sc X C h => snd_binO C (fun y hy => ih_a y N sc X C hy) (fun y hy => ih_b y N sc X C hy) h

theorem sE_idxO {a : E} {i : E} (ih_a : SE P call k a) (ih_i : SE P call k i) : SE P call k (.idxO a i) := fun x N sc X C h => snd_idxO C (fun y hy => ih_a y N sc X C hy) (fun y hy => ih_i y N sc X C hy) h

theorem sE_lenO {a : E} (ih_a : SE P call k a) : SE P call k (.lenO a) := fun x N sc X C h => snd_lenO C (fun y hy => ih_a y N sc X C hy) h

theorem sE_labT {a : E} (ih_a : SE P call k a) : SE P call k (.labT a) := fun x N sc X C h => snd_labT C (fun y hy => ih_a y N sc X C hy) h

theorem sE_sortedK {a : E} (ih_a : SE P call k a) : SE P call k (.sortedK a) := fun x N sc X C h => snd_sortedK C (fun y hy => ih_a y N sc X C hy) h

theorem sE_minT {a : E} (ih_a : SE P call k a) : SE P call k (.minT a) := fun x N sc X C h => snd_minT C (fun y hy => ih_a y N sc X C hy) h

theorem sE_maxT {a : E} (ih_a : SE P call k a) : SE P call k (.maxT a) := fun x N sc X C h => snd_maxT C (fun y hy => ih_a y N sc X C hy) h

theorem sE_tupStr {a : E} (ih_a : SE P call k a) : SE P call k (.tupStr a) := fun x N sc X C h => snd_tupStr C (fun y hy => ih_a y N sc X C hy) h

theorem sE_itemsL {a : E} (ih_a : SE P call k a) : SE P call k (.itemsL a) := fun x N sc X C h => snd_items C (fun y hy => ih_a y N sc X C hy) h

theorem sE_tupS {fs : List Bool} {es : List E} (iht_es : SSt P call k es) : SE P call k (.tupS fs es) := fun x N sc X C h => snd_tupS (fun ys hy => iht_es fs ys N sc X C hy) h

theorem sE_labS {fs : List Bool} {es : List E} (iht_es : SSt P call k es) : SE P call k (.labS fs es) := fun x N sc X C h => snd_labS (fun ys hy => iht_es fs ys N sc X C hy) h

theorem sE_lstS {fs : List Bool} {es : List E} (iht_es : SSt P call k es) : SE P call k (.lstS fs es) := fun x N sc X C h => snd_lstS (fun ys hy => iht_es fs ys N sc X C hy) h

theorem sE_isO {a : E} {ts : List TyO} (ih_a : SE P call k a) : SE P call k (.isO a ts) := fun x N sc X C h => snd_isO C (fun y hy => ih_a y N sc X C hy) h

theorem sE_rev {a : E} (ih_a : SE P call k a) : SE P call k (.rev a) := fun x N sc X C h => snd_rev (fun y hy => ih_a y N sc X C hy) h

theorem sE_comp2 {u0 : List Nat} {u1 : Tg} {u2 : I} {u3 : Option E} {u4 : List Nat} {u5 : Tg} {u6 : I} {u7 : Option E} {u8 : E}  : SE P call k (.comp2 u0 u1 u2 u3 u4 u5 u6 u7 u8) := fun x N sc X C h => snd_no2 h

theorem sE_comp {own : List Nat} {t : Tg} {it : I} {c : Option E} {e : E} (ihi_it : SI P call k it) (ihc_c : SC P call k c) (ih_e : SE P call k e) : SE P call k (.comp own t it c e) := fun x N sc X C h => by
    cases x <;> first | (cases h; done) | skip
    rename_i elt gs scope p
    match gs, h with
    | [⟨tg, iter, ifs, a⟩], h =>
      simp only [chkE, Bool.and_eq_true, decide_eq_true_eq] at h
      obtain ⟨⟨⟨⟨⟨⟨⟨⟨ha, hb⟩, ho⟩, hs⟩, hsub⟩, hi⟩, hg⟩, hc⟩, he⟩ := h
      subst ha
      have pi := ihi_it tg iter N sc X C hi
      have ok : BlkOk X.N X.env.scope scope (ownN N own) := by rw [C.n, C.sc]; exact blkOk_by hb
      have pg : ∀ (s : Shared) (H : Hp) (A : Addr) (cl : List (Str × Addr)) (fp : List Addr), PG (X.blk s H scope (compEnvC scope cl A X.env) fp) tg (rdG X.K t) := fun s H A cl fp => by
        have C' := C.blk s H scope A cl fp
        refine pg_ok C'.calm (by rw [C'.n]; exact C'.nd) t tg ?_
        rw [C'.n, C'.sc]
        exact hg
      have pt : ∀ (s : Shared) (H : Hp) (A : Addr) (cl : List (Str × Addr)) (fp : List Addr), PTs (X.blk s H scope (compEnvC scope cl A X.env) fp) ifs (rdT X.K (evalC P call c)) := fun s H A cl fp => ihc_c ifs N (relS scope sc) _ (C.blk s H scope A cl fp) hc
      have pe : ∀ (s : Shared) (H : Hp) (A : Addr) (cl : List (Str × Addr)) (fp : List Addr), PE (X.blk s H scope (compEnvC scope cl A X.env) fp) elt (rdE X.K (evalE P call e)) := fun s H A cl fp => (ih_e elt N (relS scope sc) _ (C.blk s H scope A cl fp) he).pe
      have main := pe_lc (pos := p) C.calm (by rw [C.n]; exact C.nd) pi ok pg pt pe (fun v => no_fold hs X.env v)
      rw [ho] at main
      refine .fresh (PE.weak main fun σ H Q q => rdF_comp (fun j hj => ?_) q) rfl fun env T d T' ev => alloc_lst (P := P) (call := call) (e := .comp own t it c e) rfl (fun _ _ _ z => by cases z) ev
      exact List.contains_iff_mem.mp (List.all_eq_true.mp hsub j hj)

theorem sE_dcomp {tk : Bool} {own : List Nat} {t : Tg} {it : I} {c : Option E} {ky : E} {vy : E} (ihi_it : SI P call k it) (ihc_c : SC P call k c) (ih_ky : SE P call k ky) (ih_vy : SE P call k vy) : SE P call k (.dcomp tk own t it c ky vy) := fun x N sc X C h => by
    cases x <;> first | (cases h; done) | skip
    rename_i kx vx gs scope p
    match gs, h with
    | [⟨tg, iter, ifs, a⟩], h =>
      simp only [chkE, Bool.and_eq_true, decide_eq_true_eq] at h
      obtain ⟨⟨⟨⟨⟨⟨⟨⟨⟨ha, hb⟩, ho⟩, hs⟩, hsub⟩, hi⟩, hg⟩, hc⟩, hk⟩, hv⟩ := h
      subst ha
      have pi := ihi_it tg iter N sc X C hi
      have ok : BlkOk X.N X.env.scope scope (ownN N own) := by rw [C.n, C.sc]; exact blkOk_by hb
      have pg : InBlk X scope fun Y => PG Y tg (rdG X.K t) := fun s H A cl fp => by
        have C' := C.blk s H scope A cl fp
        refine pg_ok C'.calm (by rw [C'.n]; exact C'.nd) t tg ?_
        rw [C'.n, C'.sc]
        exact hg
      have pt : InBlk X scope fun Y => PTs Y ifs (rdT X.K (evalC P call c)) := fun s H A cl fp => ihc_c ifs N (relS scope sc) _ (C.blk s H scope A cl fp) hc
      have pk : InBlk X scope fun Y => PE Y kx (rdE X.K (evalE P call ky)) := fun s H A cl fp => (ih_ky kx N (relS scope sc) _ (C.blk s H scope A cl fp) hk).pe
      have pv : InBlk X scope fun Y => PE Y vx (rdE X.K (evalE P call vy)) := fun s H A cl fp => (ih_vy vx N (relS scope sc) _ (C.blk s H scope A cl fp) hv).pe
      have hF : (formOf tk).Ok X.prog X.w X.A := by
        cases tk
        · exact formK_ok
        · exact formT_ok (by have := C.hu; omega)
      have main := pe_dcG (pos := p) hF C.calm (by rw [C.n]; exact C.nd) pi ok pg pt pk pv (fun v => no_fold hs X.env v)
      rw [ho] at main
      refine .plain (PE.weak main fun σ H Q q => rd_dcomp (fun j hj => ?_) q) rfl rfl
      exact List.contains_iff_mem.mp (List.all_eq_true.mp hsub j hj)

theorem sE_dict0 {t : Bool}  : SE P call k (.dict0 t) := fun x N sc X C h => by
    cases x <;> first | (cases h; done) | skip
    rename_i ks vs p
    cases ks with
    | cons _ _ => cases h
    | nil =>
      cases vs with
      | cons _ _ => cases h
      | nil =>
        cases t with
        | false => exact .plain (PE.weak pe_dnewK fun σ H Q q => rd_dict0 (t := false) q) rfl rfl
        | true => exact .plain (PE.weak pe_dnewT fun σ H Q q => rd_dict0 (t := true) q) rfl rfl

theorem sE_sset {a : E} (ih_a : SE P call k a) : SE P call k (.sset a) := fun x N sc X C h => by
    simp only [chkE] at h
    split at h
    · rename_i nm nm2 z e
      obtain ⟨p, p2, q, pos, rfl⟩ := ssetX_eq e
      simp only [Bool.and_eq_true, decide_eq_true_eq] at h
      obtain ⟨⟨⟨⟨⟨h1, h2⟩, h3⟩, h4⟩, h5⟩, h6⟩ := h
      have hm1 : X.mg nm = none := C.g.free nm (by rw [h1]; decide)
      have hm2 : X.mg nm2 = none := C.g.free nm2 (by rw [h2]; decide)
      exact .plain (pe_sortedSet C.calm C.hu h1 h2 (C.gl h3) hm1 (C.gl h4) hm2 (ih_a z N sc X C h6).pe (star_no h5 [] X.env)) rfl rfl
    · cases h

theorem sE_mut {a : E} (ih_a : SE P call k a) : SE P call k (.mut a) := fun x N sc X C h => by
    simp only [chkE, Bool.and_eq_true] at h
    have s := ih_a x N sc X C h.2
    refine ⟨PE.weak (s.pf h.1) fun σ H Q q => rd_mut q, PT.weak s.pt fun σ H Q q => ?_, fun op vs pos z => PW.weak (s.pw op vs pos z) fun σ H Q q => ?_, fun z => (by cases z)⟩
    · obtain ⟨R, T, env, b', T', st, en, e, po⟩ := q
      exact (evalT_mut e).elim
    · obtain ⟨R, T, env, b', T', st, en, e, po⟩ := q
      exact (evalT_mut e).elim

theorem sE_frz {a : E} (ih_a : SE P call k a) : SE P call k (.frz a) := fun x N sc X C h => by
    have s := ih_a x N sc X C h
    refine ⟨PE.weak s.pe fun σ H Q q => rd_frz q, PT.weak s.pt fun σ H Q q => ?_, fun op vs pos z => PW.weak (s.pw op vs pos z) fun σ H Q q => ?_, fun z => (by cases z)⟩
    · obtain ⟨R, T, env, b', T', st, en, e, po⟩ := q
      exact ⟨R, T, env, b', T', st, en, evalT_frz e, po⟩
    · obtain ⟨R, T, env, b', T', st, en, e, po⟩ := q
      exact ⟨R, T, env, b', T', st, en, evalT_frz e, po⟩

theorem sI_seq {e : E} (ih_e : SE P call k e) : SI P call k (.seq e) := fun tg iter N sc X C h => pi_seq (ih_e iter N sc X C h).pe

theorem sI_rng1 {a : E} (ih_a : SE P call k a) : SI P call k (.rng1 a) := fun tg iter N sc X C h => by
    cases iter <;> first | (cases h; done) | skip
    rename_i fx xs kws p
    cases fx <;> first | (cases h; done) | skip
    rename_i nm np
    match xs, kws, h with
    | [y], [], h =>
      simp only [chkI, Bool.and_eq_true, decide_eq_true_eq] at h
      obtain ⟨⟨⟨hn, hg⟩, hs⟩, ha⟩ := h
      subst hn
      exact pi_rng1 (C.gl hg) (C.g.free _ (by decide)) (pa_cons (ih_a y N sc X C ha).pe pa_nil (star_no hs _ _)) (star_no hs _ _)

theorem sI_rng2 {a b : E} (ih_a : SE P call k a) (ih_b : SE P call k b) : SI P call k (.rng2 a b) := fun tg iter N sc X C h => by
    cases iter <;> first | (cases h; done) | skip
    rename_i fx xs kws p
    cases fx <;> first | (cases h; done) | skip
    rename_i nm np
    match xs, kws, h with
    | [y, z], [], h =>
      simp only [chkI, Bool.and_eq_true, decide_eq_true_eq] at h
      obtain ⟨⟨⟨⟨⟨hn, hg⟩, hs⟩, hs2⟩, ha⟩, hb⟩ := h
      subst hn
      have z1 : starEach [z] X.env = [(false, eval z X.env)] := star_no hs2 _ _
      exact pi_rng2 (C.gl hg) (C.g.free _ (by decide)) (pa_cons (ih_a y N sc X C ha).pe (pa_cons (ih_b z N sc X C hb).pe pa_nil z1) (star_no hs _ _)) (by rw [star_no hs, z1]) z1

theorem sI_enum {a : E} (ih_a : SE P call k a) : SI P call k (.enum a) := fun tg iter N sc X C h => by
    cases tg <;> first | (cases h; done) | skip
    cases iter <;> first | (cases h; done) | skip
    rename_i fx xs kws p
    cases fx <;> first | (cases h; done) | skip
    rename_i nm np
    match xs, kws, h with
    | [y], [], h =>
      simp only [chkI, Bool.and_eq_true, decide_eq_true_eq] at h
      obtain ⟨⟨⟨hn, hg⟩, hs⟩, ha⟩ := h
      subst hn
      exact pi_enumD (C.gl hg) (C.g.free _ (by decide)) (pa_cons (ih_a y N sc X C ha).pe pa_nil (star_no hs _ _)) (star_no hs _ _)

theorem sI_zip {a b : E} (ih_a : SE P call k a) (ih_b : SE P call k b) : SI P call k (.zip a b) := fun tg iter N sc X C h => by
    cases tg <;> first | (cases h; done) | skip
    cases iter <;> first | (cases h; done) | skip
    rename_i fx xs kws p
    cases fx <;> first | (cases h; done) | skip
    rename_i nm np
    match xs, kws, h with
    | [y, z], [], h =>
      simp only [chkI, Bool.and_eq_true, decide_eq_true_eq] at h
      obtain ⟨⟨⟨⟨⟨hn, hg⟩, hs⟩, hs2⟩, ha⟩, hb⟩ := h
      subst hn
      have z1 : starEach [z] X.env = [(false, eval z X.env)] := star_no hs2 _ _
      exact pi_zipD (C.gl hg) (C.g.free _ (by decide)) (pa_cons (ih_a y N sc X C ha).pe (pa_cons (ih_b z N sc X C hb).pe pa_nil z1) (star_no hs _ _)) (star_no hs _ _) (by rw [z1]; rfl)

theorem sI_enumZip {a b : E} (ih_a : SE P call k a) (ih_b : SE P call k b) : SI P call k (.enumZip a b) := fun tg iter N sc X C h => by
    cases tg <;> first | (cases h; done) | skip
    cases iter <;> first | (cases h; done) | skip
    rename_i fx xs kws p
    cases fx <;> first | (cases h; done) | skip
    rename_i nm np
    match xs, kws, h with
    | [.Call (.Name g gp) [y, z] [] p2], [], h =>
      simp only [chkI, Bool.and_eq_true, decide_eq_true_eq] at h
      obtain ⟨⟨⟨⟨⟨⟨⟨hn, hg⟩, hn2⟩, hg2⟩, hs⟩, hs2⟩, ha⟩, hb⟩ := h
      subst hn
      subst hn2
      have z1 : starEach [z] X.env = [(false, eval z X.env)] := star_no hs2 _ _
      exact pi_ezD (C.gl hg) (C.g.free _ (by decide)) (C.gl hg2) (C.g.free _ (by decide)) (pa_cons (ih_a y N sc X C ha).pe (pa_cons (ih_b z N sc X C hb).pe pa_nil z1) (star_no hs _ _)) (star_no hs _ _) (by rw [z1]; rfl)
end
end Pz

set_option Elab.async false
set_option linter.all false
set_option maxRecDepth 100000
set_option maxHeartbeats 8000000
namespace Pz
open PySem PySem.Spec L2
section
variable {P : Prog} {call : Nat → List D → M D} {k : Nat}
/-- its parts are smaller -/
theorem sI (it : I) (ih : ∀ e : E, sizeOf e < sizeOf it → SE P call k e) : SI P call k it := by
  cases it with
  | seq e => exact sI_seq (ih e (by simp only [I.seq.sizeOf_spec]; omega))
  | rng1 a => exact sI_rng1 (ih a (by simp only [I.rng1.sizeOf_spec]; omega))
  | rng2 a b => exact sI_rng2 (ih a (by simp only [I.rng2.sizeOf_spec]; omega)) (ih b (by simp only [I.rng2.sizeOf_spec]; omega))
  | enum a => exact sI_enum (ih a (by simp only [I.enum.sizeOf_spec]; omega))
  | zip a b => exact sI_zip (ih a (by simp only [I.zip.sizeOf_spec]; omega)) (ih b (by simp only [I.zip.sizeOf_spec]; omega))
  | enumZip a b => exact sI_enumZip (ih a (by simp only [I.enumZip.sizeOf_spec]; omega)) (ih b (by simp only [I.enumZip.sizeOf_spec]; omega))
  | enumT a => intro tg iter N sc X C h; exfalso; revert h; cases tg <;> cases iter <;> exact fun h => Bool.noConfusion h
  | zip3 a b c => intro tg iter N sc X C h; exfalso; revert h; cases tg <;> cases iter <;> exact fun h => Bool.noConfusion h
theorem soundAll : ∀ (n : Nat) (e : E), sizeOf e < n → SE P call k e := by
  intro n
  induction n with
  | zero => intro e h; omega
  | succ n ihn =>
    intro e hs
    have ih : ∀ e' : E, sizeOf e' < sizeOf e → SE P call k e' := fun e' h => ihn e' (by omega)
    clear ihn
    cases e with
    | non => exact sE_non 
    | bl b => exact sE_bl 
    | int i => exact sE_int 
    | str z => exact sE_str 
    | var i => exact sE_var 
    | glo j => exact sE_glo 
    | bin op a b => exact sE_bin (ih a (by simp only [E.bin.sizeOf_spec] ; omega)) (ih b (by simp only [E.bin.sizeOf_spec] ; omega))
    | neg a => exact sE_neg (ih a (by simp only [E.neg.sizeOf_spec] ; omega))
    | not a => exact sE_not (ih a (by simp only [E.not.sizeOf_spec] ; omega))
    | cmp op a b => exact sE_cmp (ih a (by simp only [E.cmp.sizeOf_spec] ; omega)) (ih b (by simp only [E.cmp.sizeOf_spec] ; omega))
    | cmp2 op op' a b c => exact sE_cmp2 (ih a (by simp only [E.cmp2.sizeOf_spec] ; omega)) (ih b (by simp only [E.cmp2.sizeOf_spec] ; omega)) (ih c (by simp only [E.cmp2.sizeOf_spec] ; omega))
    | and a b => exact sE_and (ih a (by simp only [E.and.sizeOf_spec] ; omega)) (ih b (by simp only [E.and.sizeOf_spec] ; omega))
    | or a b => exact sE_or (ih a (by simp only [E.or.sizeOf_spec] ; omega)) (ih b (by simp only [E.or.sizeOf_spec] ; omega))
    | orT a b => exact sE_orT (ih a (by simp only [E.orT.sizeOf_spec] ; omega)) (ih b (by simp only [E.orT.sizeOf_spec] ; omega))
    | ite c a b => exact sE_ite (ih c (by simp only [E.ite.sizeOf_spec] ; omega)) (ih a (by simp only [E.ite.sizeOf_spec] ; omega)) (ih b (by simp only [E.ite.sizeOf_spec] ; omega))
    | tup es => exact sE_tup (sEs fun e he => ih e (by simp only [E.tup.sizeOf_spec] ; have := List.sizeOf_lt_of_mem he; omega))
    | lst es => exact sE_lst (sEs fun e he => ih e (by simp only [E.lst.sizeOf_spec] ; have := List.sizeOf_lt_of_mem he; omega))
    | idx a i => exact sE_idx (ih a (by simp only [E.idx.sizeOf_spec] ; omega)) (ih i (by simp only [E.idx.sizeOf_spec] ; omega))
    | slc a lo hi => exact sE_slc (ih a (by simp only [E.slc.sizeOf_spec] ; omega)) (sO fun e he => ih e (by subst he; simp only [E.slc.sizeOf_spec, Option.some.sizeOf_spec] ; omega)) (sO fun e he => ih e (by subst he; simp only [E.slc.sizeOf_spec, Option.some.sizeOf_spec] ; omega))
    | call f args => exact sE_call (sEs fun e he => ih e (by simp only [E.call.sizeOf_spec] ; have := List.sizeOf_lt_of_mem he; omega))
    | callK f args ks kws => exact sE_callK (sEs fun e he => ih e (by simp only [E.callK.sizeOf_spec] ; have := List.sizeOf_lt_of_mem he; omega)) (sK fun e he => ih e (by simp only [E.callK.sizeOf_spec] ; have := List.sizeOf_lt_of_mem he; omega))
    | blt b args => exact sE_blt (sEs fun e he => ih e (by simp only [E.blt.sizeOf_spec] ; have := List.sizeOf_lt_of_mem he; omega))
    | isi a ts => exact sE_isi (ih a (by simp only [E.isi.sizeOf_spec] ; omega))
    | mth m o args => exact sE_mth (ih o (by simp only [E.mth.sizeOf_spec] ; omega)) (sEs fun e he => ih e (by simp only [E.mth.sizeOf_spec] ; have := List.sizeOf_lt_of_mem he; omega))
    | bad => exact sE_bad 
    | att a f => exact sE_att (ih a (by simp only [E.att.sizeOf_spec] ; omega))
    | meth a m args => exact sE_meth (ih a (by simp only [E.meth.sizeOf_spec] ; omega)) (sEs fun e he => ih e (by simp only [E.meth.sizeOf_spec] ; have := List.sizeOf_lt_of_mem he; omega))
    | make z c args => exact sE_make (sEs fun e he => ih e (by simp only [E.make.sizeOf_spec] ; have := List.sizeOf_lt_of_mem he; omega))
    | stat c m args => exact sE_stat (sEs fun e he => ih e (by simp only [E.stat.sizeOf_spec] ; have := List.sizeOf_lt_of_mem he; omega))
    | callO a args => exact sE_callO (ih a (by simp only [E.callO.sizeOf_spec] ; omega)) (sEs fun e he => ih e (by simp only [E.callO.sizeOf_spec] ; have := List.sizeOf_lt_of_mem he; omega))
    | eqO neg a b => exact sE_eqO (ih a (by simp only [E.eqO.sizeOf_spec] ; omega)) (ih b (by simp only [E.eqO.sizeOf_spec] ; omega))
    | inO neg a b => exact sE_inO (ih a (by simp only [E.inO.sizeOf_spec] ; omega)) (ih b (by simp only [E.inO.sizeOf_spec] ; omega))
    | binO op a b => exact sE_binO (ih a (by simp only [E.binO.sizeOf_spec] ; omega)) (ih b (by simp only [E.binO.sizeOf_spec] ; omega))
    | idxO a i => exact sE_idxO (ih a (by simp only [E.idxO.sizeOf_spec] ; omega)) (ih i (by simp only [E.idxO.sizeOf_spec] ; omega))
    | lenO a => exact sE_lenO (ih a (by simp only [E.lenO.sizeOf_spec] ; omega))
    | labT a => exact sE_labT (ih a (by simp only [E.labT.sizeOf_spec] ; omega))
    | sortedK a => exact sE_sortedK (ih a (by simp only [E.sortedK.sizeOf_spec] ; omega))
    | minT a => exact sE_minT (ih a (by simp only [E.minT.sizeOf_spec] ; omega))
    | maxT a => exact sE_maxT (ih a (by simp only [E.maxT.sizeOf_spec] ; omega))
    | tupStr a => exact sE_tupStr (ih a (by simp only [E.tupStr.sizeOf_spec] ; omega))
    | itemsL a => exact sE_itemsL (ih a (by simp only [E.itemsL.sizeOf_spec] ; omega))
    | tupS fs es => exact sE_tupS (sSt fun e he => ih e (by simp only [E.tupS.sizeOf_spec] ; have := List.sizeOf_lt_of_mem he; omega))
    | labS fs es => exact sE_labS (sSt fun e he => ih e (by simp only [E.labS.sizeOf_spec] ; have := List.sizeOf_lt_of_mem he; omega))
    | lstS fs es => exact sE_lstS (sSt fun e he => ih e (by simp only [E.lstS.sizeOf_spec] ; have := List.sizeOf_lt_of_mem he; omega))
    | isO a ts => exact sE_isO (ih a (by simp only [E.isO.sizeOf_spec] ; omega))
    | rev a => exact sE_rev (ih a (by simp only [E.rev.sizeOf_spec] ; omega))
    | comp2 u0 u1 u2 u3 u4 u5 u6 u7 u8 => exact sE_comp2 
    | comp own t it c e => exact sE_comp (sI it fun e he => ih e (by simp only [E.comp.sizeOf_spec] ; omega)) (sC fun e he => ih e (by subst he; simp only [E.comp.sizeOf_spec, Option.some.sizeOf_spec] ; omega)) (ih e (by simp only [E.comp.sizeOf_spec] ; omega))
    | dcomp tk own t it c ky vy => exact sE_dcomp (sI it fun e he => ih e (by simp only [E.dcomp.sizeOf_spec] ; omega)) (sC fun e he => ih e (by subst he; simp only [E.dcomp.sizeOf_spec, Option.some.sizeOf_spec] ; omega)) (ih ky (by simp only [E.dcomp.sizeOf_spec] ; omega)) (ih vy (by simp only [E.dcomp.sizeOf_spec] ; omega))
    | dict0 t => exact sE_dict0 
    | sset a => exact sE_sset (ih a (by simp only [E.sset.sizeOf_spec] ; omega))
    | «mut» a => exact sE_mut (ih a (by simp only [E.«mut».sizeOf_spec] ; omega))
    | frz a => exact sE_frz (ih a (by simp only [E.frz.sizeOf_spec] ; omega))
theorem soundE (e : E) : SE P call k e := soundAll (sizeOf e + 1) e (Nat.lt_succ_self _)
theorem soundEs (es : List E) : SEs P call k es := sEs fun e _ => soundE e
theorem soundC (c : Option E) : SC P call k c := sC fun e _ => soundE e
theorem soundI (it : I) : SI P call k it := sI it fun e _ => soundE e
end
end Pz

set_option Elab.async false
set_option linter.all false
set_option maxRecDepth 100000
set_option maxHeartbeats 8000000
/-! I12: statements. -/
namespace Pz
open PySem PySem.Spec L2

/-! ### what a statement's end must do -/
def EndsOk (K : PySem.W.Frag) (R : Rho) (H : Hp) (D : Ends) (r : Fl) (T' : Store) : Prop := match r with
  | .nx env' => ∀ R' H' σ', Le R H R' H' → StOk K R' T' H' → EnvOk K R' H' σ' env' → D.nx σ' H'
  | .bk env' => ∀ R' H' σ', Le R H R' H' → StOk K R' T' H' → EnvOk K R' H' σ' env' → D.bk σ' H'
  | .ct env' => ∀ R' H' σ', Le R H R' H' → StOk K R' T' H' → EnvOk K R' H' σ' env' → D.ct σ' H'
  | .rt d => Post K R H d T' D.rt
def rdS (K : PySem.W.Frag) (ev : Env → M Fl) : TS := fun D σ H => ∃ R T env r T', StOk K R T H ∧ EnvOk K R H σ env ∧ ev env T = .ok r T' ∧ EndsOk K R H D r T'
theorem EndsOk.later {K : PySem.W.Frag} {R R1 : Rho} {H H1 : Hp} {D : Ends} {r : Fl} {T' : Store} (h : EndsOk K R H D r T') (l : Le R H R1 H1) : EndsOk K R1 H1 D r T' := by
  cases r with
  | nx env => exact fun R' H' σ' l' => h R' H' σ' (l.trans l')
  | bk env => exact fun R' H' σ' l' => h R' H' σ' (l.trans l')
  | ct env => exact fun R' H' σ' l' => h R' H' σ' (l.trans l')
  | rt d => exact Post.later h l
section
variable {K : PySem.W.Frag} {D : Ends} {σ : L2.St} {H : Hp}
theorem rdS_expr {ea : Env → M Pz.D} (h : rdS K (fun env => do let _ ← ea env; pure (.nx env)) D σ H) : tDrop (rdE K ea) D σ H := by
  obtain ⟨R, T, env, r, T', st, en, e, po⟩ := h
  refine rd_then (f := fun env _ => (pure (Fl.nx env) : M Fl)) st en e fun x T1 R1 H1 v e1 l1 s1 en1 r1 => ?_
  obtain ⟨rfl, rfl⟩ := pure_ok e1
  exact po R1 H1 σ l1 s1 en1
def bindF (t : Tg) (x : Pz.D) (env : Env) : M Fl := match bindT t x env with
  | some env' => pure (.nx env')
  | none => fail
theorem rdS_asg {ea : Env → M Pz.D} {t : Tg} (h : rdS K (fun env => do let x ← ea env; bindF t x env) D σ H) : tAsg (rdE K ea) (rdG K t) D σ H := by
  obtain ⟨R, T, env, r, T', st, en, e, po⟩ := h
  refine rd_then (f := fun env x => bindF t x env) st en e fun x T1 R1 H1 v e1 l1 s1 en1 r1 => ?_
  unfold bindF at e1
  cases hb : bindT t x env with
  | none => rw [hb] at e1; cases e1
  | some env' =>
    rw [hb] at e1
    obtain ⟨rfl, rfl⟩ := pure_ok e1
    exact ⟨R1, T1, env, x, env', s1, en1, r1, hb, fun σ' en' _ => po R1 H1 σ' l1 s1 en'⟩
theorem rdS_aug {ea : Env → M Pz.D} {i : Nat} {op : BOp} (h : rdS K (fun env => do
    let x ← varD env[i]?
    let y ← ea env
    let z ← augD op x y
    pure (.nx (env.set i (some z)))) D σ H) : tAug i (rdE K ea) (rdOp K (augD op)) D σ H := by
  obtain ⟨R, T, env, r, T', st, en, e, po⟩ := h
  obtain ⟨x, T1, e1, e2⟩ := bind_ok e
  cases hx : env[i]? with
  | none => rw [hx] at e1; cases e1
  | some o =>
    cases o with
    | none => rw [hx] at e1; cases e1
    | some d =>
      rw [hx] at e1
      obtain ⟨rfl, rfl⟩ := pure_ok e1
      obtain ⟨v, hv, rv⟩ := en.2 i d hx
      refine ⟨v, hv, ?_⟩
      refine rd_then (f := fun env y => (do let z ← augD op d y; pure (Fl.nx (env.set i (some z))) : M Fl)) st en e2 fun y T1 R1 H1 w e3 l1 s1 en1 r1 => ?_
      obtain ⟨z, T2, e4, e5⟩ := bind_ok e3
      obtain ⟨rfl, rfl⟩ := pure_ok e5
      exact ⟨R1, T1, d, y, z, T2, s1, Rep.mono l1 _ _ rv, r1, e4, fun R2 H2 u l2 s2 r2 => po R2 H2 _ (l1.trans l2) s2 ((en1.mono l2).set r2)⟩
theorem rdS_ret {ea : Env → M Pz.D} (h : rdS K (fun env => do let x ← ea env; pure (.rt x)) D σ H) : tRet (rdE K ea) D σ H := by
  obtain ⟨R, T, env, r, T', st, en, e, po⟩ := h
  refine rd_then (f := fun env x => (pure (Fl.rt x) : M Fl)) st en e fun x T1 R1 H1 v e1 l1 s1 en1 r1 => ?_
  obtain ⟨rfl, rfl⟩ := pure_ok e1
  exact po R1 H1 v l1 s1 r1
theorem rdS_if {ec : Env → M Bool} {ea eb : Env → M Fl} (h : rdS K (fun env => do let k ← ec env; match k with | true => ea env | false => eb env) D σ H) : tIfS (rdT K ec) (rdS K ea) (rdS K eb) D σ H := by
  obtain ⟨R, T, env, r, T', st, en, e, po⟩ := h
  obtain ⟨k, T1, e1, e2⟩ := bind_ok e
  refine ⟨R, T, env, k, T1, st, en, e1, fun R1 H1 l1 s1 => ?_⟩
  cases k with
  | true => exact iteT ⟨R1, T1, env, r, T', s1, en.mono l1, e2, po.later l1⟩
  | false => exact iteF ⟨R1, T1, env, r, T', s1, en.mono l1, e2, po.later l1⟩
theorem rdS_seq {ea eb : Env → M Fl} (h : rdS K (fun env => do let f ← ea env; match f with | .nx env' => eb env' | f => pure f) D σ H) : tSeq (rdS K ea) (rdS K eb) D σ H := by
  obtain ⟨R, T, env, r, T', st, en, e, po⟩ := h
  obtain ⟨f, T1, e1, e2⟩ := bind_ok e
  refine ⟨R, T, env, f, T1, st, en, e1, ?_⟩
  cases f with
  | nx env' => exact fun R1 H1 σ' l1 s1 en1 => ⟨R1, T1, env', r, T', s1, en1, e2, po.later l1⟩
  | rt d => obtain ⟨rfl, rfl⟩ := pure_ok e2; exact po
  | bk d => obtain ⟨rfl, rfl⟩ := pure_ok e2; exact po
  | ct d => obtain ⟨rfl, rfl⟩ := pure_ok e2; exact po
def loopF (t : Tg) (eb : Env → M Fl) (x : Pz.D) (env : Env) : M Fl := match bindT t x env with
  | some env2 => eb env2
  | none => fail
theorem rdS_for {ei : Env → M Walk} {t : Tg} {eb : Env → M Fl} (h : rdS K (fun env => do let w ← ei env; forL w.2 (loopF t eb) w.1 env) D σ H) : tFor (rdI K ei) (rdG K t) (rdS K eb) D σ H := by
  obtain ⟨R, T, env, r, T', st, en, e, po⟩ := h
  obtain ⟨w, T1, e1, e2⟩ := bind_ok e
  refine ⟨R, T, env, w, T1, st, en, e1, fun R1 H1 J l1 s1 it => ?_⟩
  refine ⟨fun i m σ2 H2 => ∃ R2 T2 env2, Le R1 H1 R2 H2 ∧ StOk K R2 T2 H2 ∧ EnvOk K R2 H2 σ2 env2 ∧ m = (w.1.drop i).length ∧ i ≤ w.1.length ∧ forL w.2 (loopF t eb) (w.1.drop i) env2 T2 = .ok r T', ⟨w.1.length, ?_⟩, ?_⟩
  · exact ⟨R1, T1, env, Le.refl _ _, s1, en.mono l1, by simp, Nat.zero_le _, by simpa using e2⟩
  · rintro i m σ2 H2 ⟨R2, T2, env2, l2, s2, en2, rfl, hi, ev⟩
    cases hd : w.1.drop i with
    | nil =>
      left
      rw [hd] at ev
      unfold forL at ev
      obtain ⟨hst, rfl, rfl⟩ := okIf_ok ev
      have hl : w.1.length ≤ i := by
        have := congrArg List.length hd
        simp at this
        omega
      exact ⟨(it R2 H2 _ i l2.w s2 hst).1 hl, po R2 H2 σ2 (l1.trans l2) s2 en2⟩
    | cons x rest =>
      right
      rw [hd] at ev
      unfold forL at ev
      cases hst : stays w.2 T2 with
      | false => rw [hst] at ev; cases ev
      | true =>
        simp only [hst] at ev
        have hx : w.1[i]? = some x := by
          have := congrArg List.head? hd
          simpa [List.head?_drop] using this
        have hlt : i < w.1.length := (List.getElem?_eq_some_iff.mp hx).1
        have hd1 : w.1.drop (i + 1) = rest := by
          have := congrArg List.tail hd
          simpa [List.tail_drop] using this
        obtain ⟨go, yl⟩ := (it R2 H2 T2 i l2.w s2 hst).2 x hx
        refine ⟨go, fun σ5 H5 => ∃ R5 T5 env5, Le R1 H1 R5 H5 ∧ StOk K R5 T5 H5 ∧ EnvOk K R5 H5 σ5 env5 ∧ forL w.2 (loopF t eb) rest env5 T5 = .ok r T', ?_, ?_⟩
        · rintro σ5 H5 ⟨R5, T5, env5, a1, a2, a3, a4⟩
          exact ⟨rest.length, by simp, R5, T5, env5, a1, a2, a3, by rw [hd1], hlt, by rw [hd1]; exact a4⟩
        · intro v H3 hy
          obtain ⟨R3, l3, s3, rx⟩ := yl v H3 hy
          cases hb : bindT t x env2 with
          | none =>
            have : loopF t eb x env2 = fail := by unfold loopF; rw [hb]
            rw [this] at ev
            cases ev
          | some env3 =>
            have hf : loopF t eb x env2 = eb env3 := by unfold loopF; rw [hb]
            rw [hf] at ev
            refine ⟨R3, T2, env2, x, env3, s3, en2.mono l3, rx, hb, fun σ3 en3 _ => ?_⟩
            cases er : eb env3 T2 with
            | bad => rw [er] at ev; cases ev
            | ok f T4 =>
              rw [er] at ev
              refine ⟨R3, T2, env3, f, T4, s3, en3, er, ?_⟩
              cases f with
              | nx env' => exact fun R5 H5 σ5 l5 s5 en5 => ⟨R5, T4, env', l2.trans (l3.trans l5), s5, en5, ev⟩
              | ct env' => exact fun R5 H5 σ5 l5 s5 en5 => ⟨R5, T4, env', l2.trans (l3.trans l5), s5, en5, ev⟩
              | bk env' =>
                cases ev
                exact fun R5 H5 σ5 l5 s5 en5 => po R5 H5 σ5 (l1.trans (l2.trans (l3.trans l5))) s5 en5
              | rt d =>
                cases ev
                exact Post.later po (l1.trans (l2.trans l3))
theorem rdS_while {ec : Env → M Bool} {eb : Env → M Fl} {n : Nat} (h : rdS K (whileL ec eb n) D σ H) : tWhile (rdT K ec) (rdS K eb) D σ H := by
  obtain ⟨R, T, env, r, T', st, en, e, po⟩ := h
  refine ⟨fun m σ2 H2 => ∃ R2 T2 env2, Le R H R2 H2 ∧ StOk K R2 T2 H2 ∧ EnvOk K R2 H2 σ2 env2 ∧ whileL ec eb m env2 T2 = .ok r T', ⟨n, R, T, env, Le.refl _ _, st, en, e⟩, ?_⟩
  rintro m σ2 H2 ⟨R2, T2, env2, l2, s2, en2, ev⟩
  cases m with
  | zero => cases ev
  | succ m =>
    unfold whileL at ev
    cases hc : ec env2 T2 with
    | bad => rw [hc] at ev; cases ev
    | ok b T3 =>
      rw [hc] at ev
      refine ⟨R2, T2, env2, b, T3, s2, en2, hc, fun R3 H3 l3 s3 => ?_⟩
      cases b with
      | false =>
        cases ev
        exact iteF (po R3 H3 σ2 (l2.trans l3) s3 (en2.mono l3))
      | true =>
        refine iteT ⟨fun σ5 H5 => ∃ R5 T5 env5, Le R H R5 H5 ∧ StOk K R5 T5 H5 ∧ EnvOk K R5 H5 σ5 env5 ∧ whileL ec eb m env5 T5 = .ok r T', ?_, ?_⟩
        · rintro σ5 H5 ⟨R5, T5, env5, a1, a2, a3, a4⟩
          exact ⟨m, Nat.lt_succ_self m, R5, T5, env5, a1, a2, a3, a4⟩
        · have ev : (match eb env2 T3 with
            | .ok (.nx env') T' => whileL ec eb m env' T'
            | .ok (.ct env') T' => whileL ec eb m env' T'
            | .ok (.bk env') T' => .ok (.nx env') T'
            | .ok (.rt d) T' => .ok (.rt d) T'
            | .bad => .bad) = .ok r T' := ev
          cases er : eb env2 T3 with
          | bad => rw [er] at ev; cases ev
          | ok f T4 =>
            rw [er] at ev
            refine ⟨R3, T3, env2, f, T4, s3, en2.mono l3, er, ?_⟩
            cases f with
            | nx env' => exact fun R5 H5 σ5 l5 s5 en5 => ⟨R5, T4, env', l2.trans (l3.trans l5), s5, en5, ev⟩
            | ct env' => exact fun R5 H5 σ5 l5 s5 en5 => ⟨R5, T4, env', l2.trans (l3.trans l5), s5, en5, ev⟩
            | bk env' =>
              cases ev
              exact fun R5 H5 σ5 l5 s5 en5 => po R5 H5 σ5 (l2.trans (l3.trans l5)) s5 en5
            | rt d =>
              cases ev
              exact Post.later po (l2.trans l3)
end

/-! ### op= -/
theorem aug_ok {X : Cx} (op : BOp) : PIp X (bopP op) (rdOp X.K (augD op)) := by
  intro pins s σ H vx vy v u Q I r1 r2 h
  obtain ⟨R, T, x, y, d, T', st, rx, ry, e, po⟩ := h
  unfold augD at e
  split at e
  · cases e
    cases rx; cases ry
    exact iop_add pins s σ H _ _ v u Q I r1 r2 ⟨_, _, rfl, rfl, Post.now st po rfl⟩
  · cases e
    cases rx; cases ry
    exact iop_sub pins s σ H _ _ v u Q I r1 r2 ⟨_, _, rfl, rfl, Post.now st po rfl⟩
  · obtain ⟨hb, rfl, rfl⟩ := okIf_ok e
    cases rx; cases ry
    rename_i i j
    have hc : CMul i j := by
      simp only [Bool.or_eq_true] at hb
      rcases hb with hb | hb
      · have := blt_lt hb
        exact .inl ⟨by omega, by omega⟩
      · have := blt_lt hb
        exact .inr ⟨by omega, by omega⟩
    exact iop_mul pins s σ H _ _ v u Q I r1 r2 ⟨_, _, rfl, rfl, hc, Post.now st po rfl⟩
  · obtain ⟨hb, rfl, rfl⟩ := okIf_ok e
    cases rx; cases ry
    exact iop_add_str pins s σ H _ _ v u Q I r1 r2 ⟨_, _, rfl, rfl, lim_le hb, Post.now st po rfl⟩
  · cases e

/-! ### the text beside the IR -/
def noComp : Expr → Bool
  | .ListComp _ _ _ _ => false
  | .SetComp _ _ _ _ => false
  | .DictComp _ _ _ _ _ => false
  | _ => true
/-- the name is stored before the block's variables go -/
def swB (sc : Scope) (x : Str) (px : Pos) (scope : Scope) (p : Pos) : Bool := (sc.names.lookup x == some .local) && (px.line == p.line) && !(scope.names.any fun (n, k) => n == x && (k == .local || k == .cell))
def swN (sc : Scope) (x : Str) (px : Pos) : Expr → Bool
  | .ListComp _ _ s p => swB sc x px s p
  | .SetComp _ _ _ _ => true
  | .DictComp _ _ _ s p => swB sc x px s p
  | _ => false
def isComp : E → Bool
  | .comp _ _ _ _ _ => true
  | .mut (.comp _ _ _ _ _) => true
  | _ => false
/-- a tuple of values is stored from the left -/
def locAt (sc : Scope) (l : Nat) : Expr → Option Str
  | .Name x p => if (sc.names.lookup x == some .local && p.line == l) = true then some x else none
  | _ => none
def fwd (sc : Scope) (ts : List Expr) : Expr → Bool
  | .Tuple vs _ _ => !(ts.length == 2 || ts.length == 3) || vs.all (foldedForSure 8) || ((ts.filterMap (locAt sc ((ts.head?.map (·.pos.line)).getD 0))).length != ts.length)
  | _ => true
/-- two names, stored from the right -/
def par2 (sc : Scope) (x y : Str) (px py : Pos) (a b : Expr) : Bool := decide (sc.names.lookup x = some .local) && decide (sc.names.lookup y = some .local) && (py.line == px.line) && !decide (x = y) && noStar a && noStar b &&
  ![a, b].all (foldedForSure 8) && ![a, b].all (constantsAlone 8)
def par3 (sc : Scope) (x y z : Str) (px py pz : Pos) (a b c : Expr) : Bool := decide (sc.names.lookup x = some .local) && decide (sc.names.lookup y = some .local) && decide (sc.names.lookup z = some .local) && (py.line == px.line) && (pz.line == px.line) &&
  !decide (x = y) && !decide (x = z) && !decide (y = z) && noStar a && noStar b && noStar c && ![a, b, c].all (foldedForSure 8) && ![a, b, c].all (constantsAlone 8)

def nameX : Expr → Option (Str × Pos)
  | .Name x p => some (x, p)
  | _ => none
def tupX : Expr → Option (List Expr)
  | .Tuple es _ _ => some es
  | _ => none
theorem nameX_eq {e : Expr} {q : Str × Pos} (h : nameX e = some q) : e = .Name q.1 q.2 := by
  cases e <;> first | (cases h; done) | skip
  cases h
  rfl
theorem tupX_eq {e : Expr} {q : List Expr} (h : tupX e = some q) : ∃ k p, e = .Tuple q k p := by
  cases e <;> first | (cases h; done) | skip
  cases h
  exact ⟨_, _, rfl⟩
def names2 (es : List Expr) : Option (Str × Pos × Str × Pos) := match es with
  | [a, b] => match nameX a, nameX b with
    | some x, some y => some (x.1, x.2, y.1, y.2)
    | _, _ => none
  | _ => none
def names3 (es : List Expr) : Option (Str × Pos × Str × Pos × Str × Pos) := match es with
  | [a, b, c] => match nameX a, nameX b, nameX c with
    | some x, some y, some z => some (x.1, x.2, y.1, y.2, z.1, z.2)
    | _, _, _ => none
  | _ => none
def vals2 (v : Expr) : Option (Expr × Expr) := match tupX v with
  | some [a, b] => some (a, b)
  | _ => none
def vals3 (v : Expr) : Option (Expr × Expr × Expr) := match tupX v with
  | some [a, b, c] => some (a, b, c)
  | _ => none
theorem names2_eq {es : List Expr} {x y : Str} {px py : Pos} (h : names2 es = some (x, px, y, py)) : es = [.Name x px, .Name y py] := by
  unfold names2 at h
  split at h
  · split at h
    · rename_i e1 e2
      cases h
      rw [nameX_eq e1, nameX_eq e2]
    · cases h
  · cases h
theorem names3_eq {es : List Expr} {x y z : Str} {px py pz : Pos} (h : names3 es = some (x, px, y, py, z, pz)) : es = [.Name x px, .Name y py, .Name z pz] := by
  unfold names3 at h
  split at h
  · split at h
    · rename_i e1 e2 e3
      cases h
      rw [nameX_eq e1, nameX_eq e2, nameX_eq e3]
    · cases h
  · cases h
theorem vals2_eq {v a b : Expr} (h : vals2 v = some (a, b)) : ∃ k p, v = .Tuple [a, b] k p := by
  unfold vals2 at h
  split at h
  · rename_i e
    cases h
    exact tupX_eq e
  · cases h
theorem vals3_eq {v a b c : Expr} (h : vals3 v = some (a, b, c)) : ∃ k p, v = .Tuple [a, b, c] k p := by
  unfold vals3 at h
  split at h
  · rename_i e
    cases h
    exact tupX_eq e
  · cases h

/-- o.f = v -/
def asgX : Stmt → Option (Expr × Str × Expr)
  | .Assign [.Attribute o f _] v _ => some (o, f, v)
  | _ => none
/-- o.f, o.g = v, w -/
def parX : Stmt → Option (List Expr × List Expr)
  | .Assign [.Tuple ts _ _] (.Tuple vs _ _) _ => some (ts, vs)
  | _ => none
theorem asgX_eq {s : Stmt} {q : Expr × Str × Expr} (h : asgX s = some q) : ∃ p pos, s = .Assign [.Attribute q.1 q.2.1 p] q.2.2 pos := by
  unfold asgX at h
  split at h
  · cases h
    exact ⟨_, _, rfl⟩
  · cases h
theorem parX_eq {s : Stmt} {q : List Expr × List Expr} (h : parX s = some q) : ∃ k p k2 p2 pos, s = .Assign [.Tuple q.1 k p] (.Tuple q.2 k2 p2) pos := by
  unfold parX at h
  split at h
  · cases h
    exact ⟨_, _, _, _, _, rfl⟩
  · cases h
def chkF (P : Prog) (N : List Str) (sc : Scope) (o : E) : List Str → List Expr → Bool
  | [], [] => true
  | f :: fs, t :: ts => (match attX t with
    | some q => decide (q.2 = f) && chkE P N sc o q.1
    | none => false) && chkF P N sc o fs ts
  | _, _ => false
mutual
def chkS (P : Prog) (N : List Str) (sc : Scope) : S → Stmt → Bool
  | .expr e, .Expr x _ => noComp x && chkE P N sc e x
  | .asg (.name i) e, .Assign [.Name x px] v _ => chkG N sc (fun _ => true) (.name i) (.Name x px) && (!swN sc x px v || (isComp e && decide (sc.names.lookup x = some .local))) && chkE P N sc e v
  | .asg (.tup ts) e, .Assign [.Tuple es k tp] v _ => chkG N sc (fun _ => true) (.tup ts) (.Tuple es k tp) && chkE P N sc e v && fwd sc es v
  | .par2 i j a b, .Assign [.Tuple es _ _] v _ => match names2 es, vals2 v with
    | some (x, px, y, py), some (va, vb) => decide (N[i]? = some x) && decide (N[j]? = some y) && par2 sc x y px py va vb && chkE P N sc a va && chkE P N sc b vb
    | _, _ => false
  | .par3 i j l a b c, .Assign [.Tuple es _ _] v _ => match names3 es, vals3 v with
    | some (x, px, y, py, z, pz), some (va, vb, vc) => decide (N[i]? = some x) && decide (N[j]? = some y) && decide (N[l]? = some z) && par3 sc x y z px py pz va vb vc && chkE P N sc a va && chkE P N sc b vb && chkE P N sc c vc
    | _, _ => false
  | .asgIdx o i e, .Assign [.Subscript x y _] v _ => noSlice y && chkE P N sc o x && chkE P N sc i y && chkE P N sc e v
  | .aug i op e, .AugAssign (.Name x _) o v _ => decide (N[i]? = some x) && isLoc sc x && decide (o = bopP op) && chkE P N sc e v
  | .ret e, .Return (some x) _ => chkE P N sc e x
  | .retN, .Return none _ => true
  | .ifs c a b, .If x p q _ => chkE P N sc c x && chkSs P N sc a p && chkSs P N sc b q
  | .loop t it body, .For tg iter b [] _ => noSet iter && chkI P N sc it tg iter && chkG N sc (fun _ => true) t tg && chkSs P N sc body b
  | .whil _ c body, .While x b [] _ => chkE P N sc c x && chkSs P N sc body b
  | .brk, .Break _ => true
  | .cnt, .Continue _ => true
  | .bad, _ => true
  | .asgF o f e, x => match asgX x with
    | some q => decide (q.2.1 = f) && noCall0 q.1 && chkE P N sc o q.1 && chkE P N sc e q.2.2
    | none => false
  | .parF o fs es, x => match parX x with
    | some q => isVarE o && chkF P N sc o fs q.1 && Nat.beq es.length fs.length && Nat.ble fs.length 1000 && fwd sc q.1 (.Tuple q.2 0 ⟨0, 0, 0, 0⟩) && chkEs P N sc es q.2
    | none => false
  | .pass, .Pass _ => true
  | .pass, .Expr (.Constant (.str _) _ _) _ => true
  | _, _ => false
def chkSs (P : Prog) (N : List Str) (sc : Scope) : List S → List Stmt → Bool
  | [], [] => true
  | s :: ss, x :: xs => chkS P N sc s x && chkSs P N sc ss xs
  | _, _ => false
end
/-- a def's block -/
structure SxOk (P : Prog) (call : Nat → List D → M D) (k : Nat) (N : List Str) (sc : Scope) (X : Cx) : Prop where
  c : CxOk P call k N sc X
  kind : sc.kind = .function
  fn : X.fn = fun _ => true
  own : PassesOwn (model X.prog X.w) X.A X.env X.xe
theorem sw_at {elt : Expr} {gs : List Comprehension} {scope : Scope} {pos py : Pos} {y : Str} {l : Nat} {env : PySem.Env} (hk : env.scope.kind = .function) : swapsWith (.ListComp elt gs scope pos) (some (.Name y py)) l env = pure (swB env.scope y py scope pos) := by
  have hb : env.blockKind = .function := by unfold Env.blockKind; rw [hk]; rfl
  unfold swapsWith swB
  simp only [hb, Env.kindOf, Expr.pos]
  rfl
theorem sw_none {v : Expr} {t : Option Expr} {l : Nat} {env : PySem.Env} (h : noComp v = true) : swapsWith v t l env = pure false := by
  cases v <;> first | rfl | cases h
theorem sw_atD {kx vx : Expr} {gs : List Comprehension} {scope : Scope} {pos py : Pos} {y : Str} {l : Nat} {env : PySem.Env} (hk : env.scope.kind = .function) : swapsWith (.DictComp kx vx gs scope pos) (some (.Name y py)) l env = pure (swB env.scope y py scope pos) := by
  have hb : env.blockKind = .function := by unfold Env.blockKind; rw [hk]; rfl
  unfold swapsWith swB
  simp only [hb, Env.kindOf, Expr.pos]
  rfl
theorem sw_off {v : Expr} {x : Str} {px : Pos} {l : Nat} {env : PySem.Env} (hk : env.scope.kind = .function) (h : swN env.scope x px v = false) : swapsWith v (some (.Name x px)) l env = pure false := by
  cases v <;> first | rfl | (cases h; done) | skip
  · rw [sw_at hk, show swB env.scope x px _ _ = false from h]
  · rw [sw_atD hk, show swB env.scope x px _ _ = false from h]
theorem sw_sub {v o i : Expr} {p : Pos} {l : Nat} {env : PySem.Env} : swapsWithSole [.Subscript o i p] v l env = pure false := by
  cases v <;> rfl
theorem sw_tup {v : Expr} {es : List Expr} {k : Nat} {p : Pos} {l : Nat} {env : PySem.Env} : swapsWithSole [.Tuple es k p] v l env = pure false := by
  cases v <;> rfl
theorem st_sub {v o i : Expr} {p : Pos} {env : PySem.Env} : swappedStores [.Subscript o i p] v env = pure none := by
  cases v <;> rfl
theorem st_fwd {v : Expr} {es : List Expr} {k : Nat} {p : Pos} {env : PySem.Env} (h : fwd env.scope es v = true) : swappedStores [.Tuple es k p] v env = pure none := by
  cases v <;> first | rfl | skip
  rename_i vs k2 p2
  unfold swappedStores
  simp only [fwd, Bool.or_eq_true] at h
  simp only [pure_bind]
  rcases h with (h | h) | h
  · rw [h]
    rfl
  · split
    · rfl
    split
    · rfl
    split
    · rfl
    simp only [h]
  · split
    · rfl
    split
    · rfl
    split
    · rfl
    · rename_i n
      exfalso
      refine n ?_
      rw [Bool.or_eq_true]
      left
      have key : ∀ f : Expr → Option Str, (∀ x, f x = locAt env.scope ((es.head?.map (·.pos.line)).getD 0) x) → ((es.filterMap f).length != es.length) = true := fun f hf => by
        rw [show f = locAt env.scope ((es.head?.map (·.pos.line)).getD 0) from funext hf]
        exact h
      exact key _ fun x => by cases x <;> rfl

theorem no_st {f : Expr → Bool} (hf : ∀ x, noStar x = true → f x = false) : ∀ {xs : List Expr}, xs.all noStar = true → xs.any f = false
  | [], _ => rfl
  | x :: xs, h => by
    simp only [List.all_cons, Bool.and_eq_true] at h
    rw [List.any_cons, hf x h.1, no_st hf h.2]
    rfl
theorem st_par2 {env : PySem.Env} {x y : Str} {px py p p2 : Pos} {kt k2 : Nat} {a b : Expr} (hk : env.scope.kind = .function) (h : par2 env.scope x y px py a b = true) :
    swappedStores [.Tuple [.Name x px, .Name y py] kt p] (.Tuple [a, b] k2 p2) env = pure (some [x, y]) := by
  have hb : env.blockKind = .function := by unfold Env.blockKind; rw [hk]; rfl
  unfold par2 at h
  simp only [Bool.and_eq_true, decide_eq_true_eq, Bool.not_eq_true', decide_eq_false_iff_not] at h
  obtain ⟨⟨⟨⟨⟨⟨⟨hx, hy⟩, hl⟩, hne⟩, sa⟩, sb⟩, hf⟩, hc⟩ := h
  have kx : env.kindOf x = some .local := hx
  have ky : env.kindOf y = some .local := hy
  have hn2 : (y == x) = false := by simpa using fun z => hne z.symm
  unfold swappedStores
  simp only [pure_bind]
  split
  · rename_i n
    simp [hb] at n
  rw [no_st (fun z hz => by cases z <;> first | rfl | cases hz) (show [a, b].all noStar = true by simp [sa, sb])]
  simp only [List.filterMap_cons, List.filterMap_nil, kx, ky, Expr.pos, List.head?_cons, Option.map_some, Option.getD_some, hl, beq_self_eq_true, Bool.and_self, if_true, hf, hc]
  simp [List.eraseDups_cons, hn2, Ne.symm hne]
theorem st_par3 {env : PySem.Env} {x y z : Str} {px py pz p p2 : Pos} {kt k2 : Nat} {a b c : Expr} (hk : env.scope.kind = .function) (h : par3 env.scope x y z px py pz a b c = true) :
    swappedStores [.Tuple [.Name x px, .Name y py, .Name z pz] kt p] (.Tuple [a, b, c] k2 p2) env = pure (some [x, y, z]) := by
  have hb : env.blockKind = .function := by unfold Env.blockKind; rw [hk]; rfl
  unfold par3 at h
  simp only [Bool.and_eq_true, decide_eq_true_eq, Bool.not_eq_true', decide_eq_false_iff_not] at h
  obtain ⟨⟨⟨⟨⟨⟨⟨⟨⟨⟨⟨⟨hx, hy⟩, hz⟩, hl⟩, hl2⟩, hne⟩, hne2⟩, hne3⟩, sa⟩, sb⟩, sc'⟩, hf⟩, hc⟩ := h
  have kx : env.kindOf x = some .local := hx
  have ky : env.kindOf y = some .local := hy
  have kz : env.kindOf z = some .local := hz
  unfold swappedStores
  simp only [pure_bind]
  split
  · rename_i n
    simp [hb] at n
  rw [no_st (fun z hz => by cases z <;> first | rfl | cases hz) (show [a, b, c].all noStar = true by simp [sa, sb, sc'])]
  simp only [List.filterMap_cons, List.filterMap_nil, kx, ky, kz, Expr.pos, List.head?_cons, Option.map_some, Option.getD_some, hl, hl2, beq_self_eq_true, Bool.and_self, if_true, hf, hc]
  simp [List.eraseDups_cons, Ne.symm hne, Ne.symm hne2, Ne.symm hne3]
end Pz

set_option Elab.async false
set_option linter.all false
set_option maxRecDepth 100000
set_option maxHeartbeats 8000000
/-! I13: the theorem of statements. -/
namespace Pz
open PySem PySem.Spec L2

section
variable {K : PySem.W.Frag} {D : Ends} {σ : L2.St} {H : Hp}
theorem rdS_par2 {ea eb : Env → M Pz.D} {i j : Nat} (h : rdS K (fun env => do let x ← ea env; let y ← eb env; pure (.nx ((env.set i (some x)).set j (some y)))) D σ H) : tPar i j (tCons (rdE K ea) (tCons (rdE K eb) tNil)) D σ H := by
  obtain ⟨R, T, env, r, T', st, en, e, po⟩ := h
  refine rd_then (f := fun env x => (do let y ← eb env; pure (Fl.nx ((env.set i (some x)).set j (some y))) : M Fl)) st en e fun x T1 R1 H1 v e1 l1 s1 en1 r1 => ?_
  refine rd_then (f := fun env y => (pure (Fl.nx ((env.set i (some x)).set j (some y))) : M Fl)) s1 en1 e1 fun y T2 R2 H2 w e2 l2 s2 en2 r2 => ?_
  obtain ⟨rfl, rfl⟩ := pure_ok e2
  exact ⟨v, w, rfl, po R2 H2 _ (l1.trans l2) s2 ((en2.set (Rep.mono l2 _ _ r1)).set r2)⟩
theorem rdS_par3 {ea eb ec : Env → M Pz.D} {i j l : Nat} (h : rdS K (fun env => do let x ← ea env; let y ← eb env; let z ← ec env; pure (.nx (((env.set i (some x)).set j (some y)).set l (some z)))) D σ H) : tPar3 i j l (tCons (rdE K ea) (tCons (rdE K eb) (tCons (rdE K ec) tNil))) D σ H := by
  obtain ⟨R, T, env, r, T', st, en, e, po⟩ := h
  refine rd_then (f := fun env x => (do let y ← eb env; let z ← ec env; pure (Fl.nx (((env.set i (some x)).set j (some y)).set l (some z))) : M Fl)) st en e fun x T1 R1 H1 v e1 l1 s1 en1 r1 => ?_
  refine rd_then (f := fun env y => (do let z ← ec env; pure (Fl.nx (((env.set i (some x)).set j (some y)).set l (some z))) : M Fl)) s1 en1 e1 fun y T2 R2 H2 w e2 l2 s2 en2 r2 => ?_
  refine rd_then (f := fun env z => (pure (Fl.nx (((env.set i (some x)).set j (some y)).set l (some z))) : M Fl)) s2 en2 e2 fun z T3 R3 H3 u e3 l3 s3 en3 r3 => ?_
  obtain ⟨rfl, rfl⟩ := pure_ok e3
  exact ⟨v, w, u, rfl, po R3 H3 _ (l1.trans (l2.trans l3)) s3 (((en3.set (Rep.mono (l2.trans l3) _ _ r1)).set (Rep.mono l3 _ _ r2)).set r3)⟩
theorem rdS_sub {eo ei ev : Env → M Pz.D} (h : rdS K (fun env => do let v ← ev env; let x ← eo env; let k ← ei env; setIdx x k v; pure (.nx env)) D σ H) : tAsg (rdE K ev) (gSub (rdE K eo) (rdE K ei) (rdSet K)) D σ H := by
  obtain ⟨R, T, env, r, T', st, en, e, po⟩ := h
  refine rd_then (f := fun env v => (do let x ← eo env; let k ← ei env; setIdx x k v; pure (Fl.nx env) : M Fl)) st en e fun v T1 R1 H1 vv e1 l1 s1 en1 r1 => ?_
  refine rd_then (f := fun env x => (do let k ← ei env; setIdx x k v; pure (Fl.nx env) : M Fl)) s1 en1 e1 fun x T2 R2 H2 xv e2 l2 s2 en2 r2 => ?_
  refine rd_then (f := fun env k => (do setIdx x k v; pure (Fl.nx env) : M Fl)) s2 en2 e2 fun k T3 R3 H3 kv e3 l3 s3 en3 r3 => ?_
  obtain ⟨_, T4, e4, e5⟩ := bind_ok e3
  obtain ⟨rfl, rfl⟩ := pure_ok e5
  exact ⟨R3, T3, x, k, v, T4, s3, Rep.mono l3 _ _ r2, r3, Rep.mono (l2.trans l3) _ _ r1, e4, fun R4 H4 l4 s4 => po R4 H4 σ (l1.trans (l2.trans (l3.trans l4))) s4 (en3.mono l4)⟩
end
section
variable {P : Prog} {call : Nat → List D → M D} {k : Nat}
/-- name = [..] where the store comes first -/
theorem lc_ps {own : List Nat} {t : Tg} {it : I} {c : Option E} {e : E} {elt : Expr} {gs : List Comprehension} {scope : Scope} {p : Pos} {N : List Str} {sc : Scope} {X : Cx} (C : CxOk P call k N sc X) (hk : sc.kind = .function)
    (h : chkE P N sc (.comp own t it c e) (.ListComp elt gs scope p) = true) {i : Nat} {y : Str} {py spos : Pos} (hi : N[i]? = some y) (hy : sc.names.lookup y = some .local) (hw : swB sc y py scope p = true) :
    PS X (.Assign [.Name y py] (.ListComp elt gs scope p) spos) (tAsg (rdF X.K (evalE P call (.comp own t it c e))) (gName i)) := by
  match gs, h with
  | [⟨tg, iter, ifs, a⟩], h =>
    simp only [chkE, Bool.and_eq_true, decide_eq_true_eq] at h
    obtain ⟨⟨⟨⟨⟨⟨⟨⟨ha, hb⟩, ho⟩, hs⟩, hsub⟩, hit⟩, hg⟩, hc⟩, he⟩ := h
    subst ha
    have pi := soundI it tg iter N sc X C hit
    have ok : BlkOk X.N X.env.scope scope (ownN N own) := by rw [C.n, C.sc]; exact blkOk_by hb
    have pg : ∀ (s : Shared) (H : Hp) (A : Addr) (cl : List (Str × Addr)) (fp : List Addr), PG (X.blk s H scope (compEnvC scope cl A X.env) fp) tg (rdG X.K t) := fun s H A cl fp => by
      have C' := C.blk s H scope A cl fp
      refine pg_ok C'.calm (by rw [C'.n]; exact C'.nd) t tg ?_
      rw [C'.n, C'.sc]
      exact hg
    have pt : ∀ (s : Shared) (H : Hp) (A : Addr) (cl : List (Str × Addr)) (fp : List Addr), PTs (X.blk s H scope (compEnvC scope cl A X.env) fp) ifs (rdT X.K (evalC P call c)) := fun s H A cl fp => soundC c ifs N (relS scope sc) _ (C.blk s H scope A cl fp) hc
    have pe : ∀ (s : Shared) (H : Hp) (A : Addr) (cl : List (Str × Addr)) (fp : List Addr), PE (X.blk s H scope (compEnvC scope cl A X.env) fp) elt (rdE X.K (evalE P call e)) := fun s H A cl fp => (soundE e elt N (relS scope sc) _ (C.blk s H scope A cl fp) he).pe
    have hsw : swapsWith (.ListComp elt [⟨tg, iter, ifs, 0⟩] scope p) (some (.Name y py)) spos.line X.env = pure true := by
      rw [sw_at (by rw [C.sc]; exact hk), C.sc, hw]
    have main := ps_setLc (i := i) (spos := spos) C.calm (by rw [C.n]; exact C.nd) (by rw [C.n]; exact hi) (by rw [C.sc]; exact hy) hsw pi ok pg pt pe (fun v => no_fold hs X.env v)
    rw [ho] at main
    exact PS.weak main fun D σ H q => rdF_comp (fun j hj => List.contains_iff_mem.mp (List.all_eq_true.mp hsub j hj)) q
theorem comp_lst {own : List Nat} {t : Tg} {it : I} {c : Option E} {e : E} (env : Env) (T : Store) (d : D) (T' : Store) (ev : evalE P call (.comp own t it c e) env T = .ok d T') : ∃ ds, d = .lst ds :=
  alloc_lst (P := P) (call := call) (e := .comp own t it c e) rfl (fun _ _ _ z => by cases z) ev
theorem gname_of {i : Nat} {te : TE} {X : Cx} {D : Ends} {σ : L2.St} {H : Hp} (h : tAsg te (rdG X.K (.name i)) D σ H) (hm : ∀ (Q Q' : VK), (∀ v H, Q v H → Q' v H) → te σ H Q → te σ H Q') : tAsg te (gName i) D σ H :=
  hm _ _ (fun v H1 q => rd_gname q) h
theorem rdE_mono {K : PySem.W.Frag} {ev : Env → M D} {σ : L2.St} {H : Hp} (Q Q' : VK) (hq : ∀ v H, Q v H → Q' v H) (h : rdE K ev σ H Q) : rdE K ev σ H Q' := by
  obtain ⟨R, T, env, d, T', st, en, e, po⟩ := h
  exact ⟨R, T, env, d, T', st, en, e, fun R' H' v l s r => hq _ _ (po R' H' v l s r)⟩

theorem loc_of {sc : Scope} {x : Str} (h2 : isLoc sc x = true) : Loc sc x := by
  unfold isLoc at h2
  split at h2
  · exact .inl (by assumption)
  · exact .inr (by assumption)
  · cases h2
variable {N : List Str} {sc : Scope} {X : Cx}
theorem s_name (C : SxOk P call k N sc X) {i : Nat} {e : E} {x : Str} {px pos : Pos} {v : Expr} (hi : N[i]? = some x) (hl : isLoc sc x = true) (hs : swN sc x px v = false) (he : chkE P N sc e v = true) : PS X (.Assign [.Name x px] v pos) (rdS X.K (exec P call (.asg (.name i) e))) := by
  have hkind : X.env.scope.kind = .function := by rw [C.c.sc]; exact C.kind
  have main := ps_set (pos := pos) (by rw [C.c.n]; exact C.c.nd) (by rw [C.c.n]; exact hi) (by rw [C.c.sc]; exact loc_of hl) (soundE e v N sc X C.c he).pe (sw_off (px := px) hkind (by rw [C.c.sc]; exact hs)) (.inl (by rw [C.fn]))
  exact PS.weak main fun D σ H q => gname_of (rdS_asg q) rdE_mono
theorem s_comp (C : SxOk P call k N sc X) {i : Nat} {e : E} {x : Str} {px pos : Pos} {v : Expr} (hi : N[i]? = some x) (hloc : sc.names.lookup x = some .local) (hs : swN sc x px v = true) (hc : isComp e = true) (he : chkE P N sc e v = true) : PS X (.Assign [.Name x px] v pos) (rdS X.K (exec P call (.asg (.name i) e))) := by
  have key : ∀ own t it c e', chkE P N sc (.comp own t it c e') v = true → PS X (.Assign [.Name x px] v pos) (tAsg (rdF X.K (evalE P call (.comp own t it c e'))) (gName i)) := by
    intro own t it c e' he
    cases v <;> first | (cases hs; done) | (cases he; done) | skip
    exact lc_ps C.c C.kind he hi hloc hs
  cases e <;> first | (cases hc; done) | skip
  · exact PS.weak (key _ _ _ _ _ he) fun D σ H q => rd_of_fresh comp_lst (gname_of (rdS_asg q) rdE_mono)
  · rename_i e2
    cases e2 <;> first | (cases hc; done) | skip
    have he2 : (allocE _ && chkE P N sc _ v) = true := he
    simp only [Bool.and_eq_true] at he2
    exact PS.weak (key _ _ _ _ _ he2.2) fun D σ H q => rd_mut (gname_of (rdS_asg q) rdE_mono)
theorem s_asgN (C : SxOk P call k N sc X) {i : Nat} {e : E} {x : Stmt} (h : chkS P N sc (.asg (.name i) e) x = true) : PS X x (rdS X.K (exec P call (.asg (.name i) e))) := by
  cases x <;> first | (cases h; done) | skip
  rename_i tgs v pos
  cases tgs with
  | nil => cases h
  | cons tg r =>
    cases tg <;> first | (cases h; done) | skip
    cases r with
    | cons _ _ => cases h
    | nil =>
      rename_i x px
      simp only [chkS, Bool.and_eq_true, Bool.or_eq_true, Bool.not_eq_true', decide_eq_true_eq] at h
      obtain ⟨⟨hg, hw⟩, he⟩ := h
      simp only [chkG, Bool.and_eq_true, decide_eq_true_eq] at hg
      cases hs : swN sc x px v with
      | false => exact s_name C hg.1.1 hg.1.2 hs he
      | true =>
        rw [hs] at hw
        have hw := hw.resolve_left (by decide)
        exact s_comp C hg.1.1 hw.2 hs hw.1 he
theorem s_asgT (C : SxOk P call k N sc X) {ts : List Tg} {e : E} {x : Stmt} (h : chkS P N sc (.asg (.tup ts) e) x = true) : PS X x (rdS X.K (exec P call (.asg (.tup ts) e))) := by
  cases x <;> first | (cases h; done) | skip
  rename_i tgs v pos
  cases tgs with
  | nil => cases h
  | cons tg r =>
    cases tg <;> first | (cases h; done) | skip
    cases r with
    | cons _ _ => cases h
    | nil =>
      rename_i es kt tp
      simp only [chkS, Bool.and_eq_true] at h
      obtain ⟨⟨hg, he⟩, hw⟩ := h
      have pg : PG X (.Tuple es kt tp) (rdG X.K (.tup ts)) := pg_ok C.c.calm (by rw [C.c.n]; exact C.c.nd) _ _ (by rw [C.c.n, C.c.sc, C.fn]; exact hg)
      exact PS.weak (ps_asg (soundE e v N sc X C.c he).pe pg sw_tup (st_fwd (by rw [C.c.sc]; exact hw)) rfl) fun D σ H q => rdS_asg q
theorem s_par2 (C : SxOk P call k N sc X) {i j : Nat} {a b : E} {x y : Str} {px py pt p2 pos : Pos} {kt k2 : Nat} {va vb : Expr} (hi : N[i]? = some x) (hj : N[j]? = some y) (hw : par2 sc x y px py va vb = true) (ha : chkE P N sc a va = true) (hb : chkE P N sc b vb = true) :
    PS X (.Assign [.Tuple [.Name x px, .Name y py] kt pt] (.Tuple [va, vb] k2 p2) pos) (rdS X.K (exec P call (.par2 i j a b))) := by
  have hkind : X.env.scope.kind = .function := by rw [C.c.sc]; exact C.kind
  have hw2 := hw
  simp only [par2, Bool.and_eq_true, decide_eq_true_eq, Bool.not_eq_true', decide_eq_false_iff_not] at hw2
  obtain ⟨⟨⟨⟨⟨⟨⟨hx, hy⟩, hl⟩, hne⟩, sa⟩, sb⟩, hf⟩, hc⟩ := hw2
  have hij : i ≠ j := fun z => by
    subst z
    exact hne (Option.some.inj (hi.symm.trans hj))
  have z1 : starEach [vb] X.env = [(false, eval vb X.env)] := star_no sb _ _
  have pa := pa_cons (soundE a va N sc X C.c ha).pe (pa_cons (soundE b vb N sc X C.c hb).pe pa_nil z1) (star_no sa [vb] X.env)
  have main := ps_par (pos := pos) (kt := kt) (pt := pt) (k2 := k2) (pt2 := p2) C.c.calm (by rw [C.c.n]; exact C.c.nd) (by rw [C.c.n]; exact hi) (by rw [C.c.n]; exact hj) hij (by rw [C.c.sc]; exact hx) (by rw [C.c.sc]; exact hy) pa (st_par2 (px := px) (py := py) hkind (by rw [C.c.sc]; exact hw)) sw_tup
  exact PS.weak main fun D σ H q => rdS_par2 q
theorem s_par3 (C : SxOk P call k N sc X) {i j l : Nat} {a b c : E} {x y z : Str} {px py pz pt p2 pos : Pos} {kt k2 : Nat} {va vb vc : Expr} (hi : N[i]? = some x) (hj : N[j]? = some y) (hl : N[l]? = some z) (hw : par3 sc x y z px py pz va vb vc = true) (ha : chkE P N sc a va = true) (hb : chkE P N sc b vb = true) (hc : chkE P N sc c vc = true) :
    PS X (.Assign [.Tuple [.Name x px, .Name y py, .Name z pz] kt pt] (.Tuple [va, vb, vc] k2 p2) pos) (rdS X.K (exec P call (.par3 i j l a b c))) := by
  have hkind : X.env.scope.kind = .function := by rw [C.c.sc]; exact C.kind
  have hw2 := hw
  simp only [par3, Bool.and_eq_true, decide_eq_true_eq, Bool.not_eq_true', decide_eq_false_iff_not] at hw2
  obtain ⟨⟨⟨⟨⟨⟨⟨⟨⟨⟨⟨⟨hx, hy⟩, hz⟩, hl1⟩, hl2⟩, hne⟩, hne2⟩, hne3⟩, sa⟩, sb⟩, sc'⟩, hf⟩, hcc⟩ := hw2
  have hij : i ≠ j := fun z => by
    subst z
    exact hne (Option.some.inj (hi.symm.trans hj))
  have hil : i ≠ l := fun z => by
    subst z
    exact hne2 (Option.some.inj (hi.symm.trans hl))
  have hjl : j ≠ l := fun z => by
    subst z
    exact hne3 (Option.some.inj (hj.symm.trans hl))
  have z0 : starEach [vc] X.env = [(false, eval vc X.env)] := star_no sc' _ _
  have pa := pa_cons (soundE a va N sc X C.c ha).pe (pa_cons (soundE b vb N sc X C.c hb).pe (pa_cons (soundE c vc N sc X C.c hc).pe pa_nil z0) (star_no sb [vc] X.env)) (star_no sa [vb, vc] X.env)
  have main := ps_par3 (pos := pos) (kt := kt) (pt := pt) (k2 := k2) (pt2 := p2) C.c.calm (by rw [C.c.n]; exact C.c.nd) (by rw [C.c.n]; exact hi) (by rw [C.c.n]; exact hj) (by rw [C.c.n]; exact hl) hij hil hjl (by rw [C.c.sc]; exact hx) (by rw [C.c.sc]; exact hy) (by rw [C.c.sc]; exact hz) pa (st_par3 (px := px) (py := py) (pz := pz) hkind (by rw [C.c.sc]; exact hw)) sw_tup
  exact PS.weak main fun D σ H q => rdS_par3 q
theorem s_par2' (C : SxOk P call k N sc X) {i j : Nat} {a b : E} {x : Stmt} (h : chkS P N sc (.par2 i j a b) x = true) : PS X x (rdS X.K (exec P call (.par2 i j a b))) := by
  cases x <;> first | (cases h; done) | skip
  rename_i tgs v pos
  cases tgs with
  | nil => cases h
  | cons tg r =>
    cases tg <;> first | (cases h; done) | skip
    cases r with
    | cons _ _ => cases h
    | nil =>
      rename_i es kt tp
      simp only [chkS] at h
      split at h
      · rename_i e1 e2
        obtain ⟨k2, p2, rfl⟩ := vals2_eq e2
        have := names2_eq e1
        subst this
        simp only [Bool.and_eq_true, decide_eq_true_eq] at h
        obtain ⟨⟨⟨⟨hi, hj⟩, hw⟩, ha⟩, hb⟩ := h
        exact s_par2 C hi hj hw ha hb
      · cases h
theorem s_par3' (C : SxOk P call k N sc X) {i j l : Nat} {a b c : E} {x : Stmt} (h : chkS P N sc (.par3 i j l a b c) x = true) : PS X x (rdS X.K (exec P call (.par3 i j l a b c))) := by
  cases x <;> first | (cases h; done) | skip
  rename_i tgs v pos
  cases tgs with
  | nil => cases h
  | cons tg r =>
    cases tg <;> first | (cases h; done) | skip
    cases r with
    | cons _ _ => cases h
    | nil =>
      rename_i es kt tp
      simp only [chkS] at h
      split at h
      · rename_i e1 e2
        obtain ⟨k2, p2, rfl⟩ := vals3_eq e2
        have := names3_eq e1
        subst this
        simp only [Bool.and_eq_true, decide_eq_true_eq] at h
        obtain ⟨⟨⟨⟨⟨⟨hi, hj⟩, hl⟩, hw⟩, ha⟩, hb⟩, hc⟩ := h
        exact s_par3 C hi hj hl hw ha hb hc
      · cases h
theorem s_asg (C : SxOk P call k N sc X) {t : Tg} {e : E} {x : Stmt} (h : chkS P N sc (.asg t e) x = true) : PS X x (rdS X.K (exec P call (.asg t e))) := by
  cases t with
  | name i => exact s_asgN C h
  | tup ts => exact s_asgT C h
theorem s_idx (C : SxOk P call k N sc X) {o i e : E} {x : Stmt} (h : chkS P N sc (.asgIdx o i e) x = true) : PS X x (rdS X.K (exec P call (.asgIdx o i e))) := by
  cases x <;> first | (cases h; done) | skip
  rename_i tgs v pos
  cases tgs with
  | nil => cases h
  | cons tg r =>
    cases tg <;> first | (cases h; done) | skip
    cases r with
    | cons _ _ => cases h
    | nil =>
      rename_i x y p
      simp only [chkS, Bool.and_eq_true] at h
      obtain ⟨⟨⟨hs, ho⟩, hi⟩, he⟩ := h
      have pg : PG X (.Subscript x y p) (gSub (rdE X.K (evalE P call o)) (rdE X.K (evalE P call i)) (rdSet X.K)) := pg_sub (soundE o x N sc X C.c ho).pe (soundE i y N sc X C.c hi).pe (set_ok C.c.hu) (by cases y <;> first | (intro _; rfl) | cases hs)
      exact PS.weak (ps_asg (soundE e v N sc X C.c he).pe pg sw_sub st_sub rfl) fun D σ H q => rdS_sub q
theorem s_aug (C : SxOk P call k N sc X) {i : Nat} {op : BOp} {e : E} {x : Stmt} (h : chkS P N sc (.aug i op e) x = true) : PS X x (rdS X.K (exec P call (.aug i op e))) := by
  cases x <;> first | (cases h; done) | skip
  rename_i tg o v pos
  cases tg <;> first | (cases h; done) | skip
  simp only [chkS, Bool.and_eq_true, decide_eq_true_eq] at h
  obtain ⟨⟨⟨hi, hl⟩, ho⟩, he⟩ := h
  subst ho
  exact PS.weak (ps_aug (by rw [C.c.n]; exact C.c.nd) (by rw [C.c.n]; exact hi) (by rw [C.c.sc]; exact loc_of hl) (soundE e v N sc X C.c he).pe (aug_ok op) (.inl (by rw [C.fn]))) fun D σ H q => rdS_aug q

theorem s_expr (C : SxOk P call k N sc X) {e : E} {x : Stmt} (h : chkS P N sc (.expr e) x = true) : PS X x (rdS X.K (exec P call (.expr e))) := by
  cases x <;> first | (cases h; done) | skip
  simp only [chkS, Bool.and_eq_true] at h
  exact PS.weak (ps_expr (soundE e _ N sc X C.c h.2).pe (sw_none h.1)) fun D σ H q => rdS_expr q
theorem s_ret (C : SxOk P call k N sc X) {e : E} {x : Stmt} (h : chkS P N sc (.ret e) x = true) : PS X x (rdS X.K (exec P call (.ret e))) := by
  cases x <;> first | (cases h; done) | skip
  rename_i v pos
  cases v with
  | none => cases h
  | some v => exact PS.weak (ps_ret (soundE e v N sc X C.c h).pe) fun D σ H q => rdS_ret q
theorem s_retN (C : SxOk P call k N sc X) {x : Stmt} (h : chkS P N sc (.retN) x = true) : PS X x (rdS X.K (exec P call (.retN))) := by
  cases x <;> first | (cases h; done) | skip
  rename_i v pos
  cases v with
  | some _ => cases h
  | none =>
    refine PS.weak ps_retN fun D σ H q => ?_
    obtain ⟨R, T, env, r, T', st, en, e, po⟩ := q
    obtain ⟨rfl, rfl⟩ := pure_ok e
    exact Post.now st po rfl
theorem s_brk (C : SxOk P call k N sc X) {x : Stmt} (h : chkS P N sc (.brk) x = true) : PS X x (rdS X.K (exec P call (.brk))) := by
  cases x <;> first | (cases h; done) | skip
  refine PS.weak ps_break fun D σ H q => ?_
  obtain ⟨R, T, env, r, T', st, en, e, po⟩ := q
  obtain ⟨rfl, rfl⟩ := pure_ok e
  exact po R H σ (Le.refl _ _) st en
theorem s_cnt (C : SxOk P call k N sc X) {x : Stmt} (h : chkS P N sc (.cnt) x = true) : PS X x (rdS X.K (exec P call (.cnt))) := by
  cases x <;> first | (cases h; done) | skip
  refine PS.weak ps_continue fun D σ H q => ?_
  obtain ⟨R, T, env, r, T', st, en, e, po⟩ := q
  obtain ⟨rfl, rfl⟩ := pure_ok e
  exact po R H σ (Le.refl _ _) st en
theorem s_pass (C : SxOk P call k N sc X) {x : Stmt} (h : chkS P N sc (.pass) x = true) : PS X x (rdS X.K (exec P call (.pass))) := by
  have nx : ∀ D σ H, rdS X.K (exec P call .pass) D σ H → tNext D σ H := by
    rintro D σ H ⟨R, T, env, r, T', st, en, e, po⟩
    obtain ⟨rfl, rfl⟩ := pure_ok e
    exact po R H σ (Le.refl _ _) st en
  cases x <;> first | (cases h; done) | skip
  · rename_i v pos
    cases v <;> first | (cases h; done) | skip
    rename_i c j p
    cases c <;> first | (cases h; done) | skip
    exact PS.weak ps_doc nx
  · exact PS.weak ps_pass nx
theorem s_ifs (C : SxOk P call k N sc X) {c : E} {a b : List S} (ha : ∀ x, chkSs P N sc a x = true → PSs X x (rdS X.K (execs P call a))) (hb : ∀ x, chkSs P N sc b x = true → PSs X x (rdS X.K (execs P call b))) {x : Stmt} (h : chkS P N sc (.ifs c a b) x = true) : PS X x (rdS X.K (exec P call (.ifs c a b))) := by
  cases x <;> first | (cases h; done) | skip
  simp only [chkS, Bool.and_eq_true] at h
  exact PS.weak (ps_if (soundE c _ N sc X C.c h.1.1).pt (ha _ h.1.2) (hb _ h.2)) fun D σ H q => rdS_if q
theorem s_loop (C : SxOk P call k N sc X) {t : Tg} {it : I} {body : List S} (hb : ∀ x, chkSs P N sc body x = true → PSs X x (rdS X.K (execs P call body))) {x : Stmt} (h : chkS P N sc (.loop t it body) x = true) : PS X x (rdS X.K (exec P call (.loop t it body))) := by
  cases x <;> first | (cases h; done) | skip
  rename_i tg iter b els pos
  cases els with
  | cons _ _ => cases h
  | nil =>
    simp only [chkS, Bool.and_eq_true] at h
    obtain ⟨⟨⟨hs, hi⟩, hg⟩, hc⟩ := h
    have pg : PG X tg (rdG X.K t) := pg_ok C.c.calm (by rw [C.c.n]; exact C.c.nd) _ _ (by rw [C.c.n, C.c.sc, C.fn]; exact hg)
    exact PS.weak (ps_for C.own C.c.calm (soundI it tg iter N sc X C.c hi) pg (hb b hc) (fun v => no_fold hs X.env v)) fun D σ H q => rdS_for q
theorem s_whil (C : SxOk P call k N sc X) {n : Nat} {c : E} {body : List S} (hb : ∀ x, chkSs P N sc body x = true → PSs X x (rdS X.K (execs P call body))) {x : Stmt} (h : chkS P N sc (.whil n c body) x = true) : PS X x (rdS X.K (exec P call (.whil n c body))) := by
  cases x <;> first | (cases h; done) | skip
  rename_i c' b els pos
  cases els with
  | cons _ _ => cases h
  | nil =>
    simp only [chkS, Bool.and_eq_true] at h
    refine PS.weak (ps_while C.own (soundE c _ N sc X C.c h.1).pt (hb b h.2)) fun D σ H q => rdS_while (n := n) ?_
    exact q
end
end Pz

set_option Elab.async false
set_option linter.all false
set_option maxRecDepth 100000
set_option maxHeartbeats 8000000
/-! I13c: attributes are stored. -/
namespace Pz
open PySem PySem.Spec L2
theorem sw_att {v o : Expr} {f : Str} {p : Pos} {l : Nat} {env : PySem.Env} : swapsWith v (some (.Attribute o f p)) l env = pure false := by
  cases v <;> rfl
theorem setF_ok {P : Prog} {x v : D} {f : Str} {T T' : Store} (h : setF P x f v T = .ok () T') : ∃ n c ns fs cd, x = .ref n ∧ T[n]? = some (.obj c ns fs) ∧ clsIn c P.cls = some cd ∧ hasS f cd.flds = true ∧ ns.length < 900 ∧ T' = T.set n (.obj c (putN f ns) (putD f v ns fs)) := by
  unfold setF at h
  split at h
  · rename_i n
    split at h
    · rename_i c ns fs e
      split at h
      · rename_i cd ec
        split at h
        · rename_i hb
          cases h
          simp only [Bool.and_eq_true] at hb
          exact ⟨n, c, ns, fs, cd, rfl, e, ec, hb.1, blt_lt hb.2, rfl⟩
        · cases h
      · cases h
    · cases h
  · cases h
section
variable {P : Prog} {call : Nat → List D → M D} {k : Nat} {N : List Str} {sc : Scope} {X : Cx}
/-- one attribute -/
theorem fld_ok (C : CxOk P call k N sc X) {R : Rho} {T T' : Store} {H : Hp} {x v : D} {vx vv : V} {f : Str} (st : StOk X.K R T H) (rx : Rep X.K R H x vx) (rv : Rep X.K R H v vv) (h : setF P x f v T = .ok () T') :
    ∃ a Ca dx fs, vx = .ref a ∧ H a = some (.ins Ca dx fs) ∧ Cls X.K Ca ∧ NoAttr X.K Ca f ∧ fs.length < 1000 ∧ Le R H R (upd H a (.ins Ca dx (putF f vv fs))) ∧ StOk X.K R T' (upd H a (.ins Ca dx (putF f vv fs))) := by
  obtain ⟨n, c, ns, fs, cd, rfl, e, ec, hf, hl, rfl⟩ := setF_ok h
  obtain ⟨a, rfl, q⟩ := rx
  obtain ⟨⟨vs, ⟨dx, e1, hn⟩, rs⟩, _⟩ := st.cell n a _ q e rfl
  obtain ⟨hc, rfl⟩ := clsIn_ok ec
  have K1 := C.g.cls cd hc
  obtain ⟨vs', h1, h2, h3⟩ := put_at (f := f) rv hn rs
  obtain ⟨l, s⟩ := st.write (o := .ins (He.ga X.K cd.name) dx (putF f vv (ns.zip vs))) (c := .obj cd.name (putN f ns) (putD f v ns fs)) q e rfl fun R' l => ⟨vs', ⟨dx, by rw [upd_same, h1], h2⟩, Reps.mono l _ _ h3⟩
  refine ⟨a, _, dx, _, rfl, e1, K1.cls, K1.fld f (hasS_mem hf), ?_, l, s⟩
  rw [List.length_zip]
  omega
theorem rdS_fld (C : CxOk P call k N sc X) {eo ev : Env → M Pz.D} {f : Str} {D : Ends} {σ : L2.St} {H : Hp} (h : rdS X.K (fun env => do let v ← ev env; let x ← eo env; setF P x f v; pure (.nx env)) D σ H) : sFld X.K (rdE X.K eo) (rdE X.K ev) f D σ H := by
  obtain ⟨R, T, env, r, T', st, en, e, po⟩ := h
  refine rd_then (f := fun env v => (do let x ← eo env; setF P x f v; pure (Fl.nx env) : M Fl)) st en e fun v T1 R1 H1 vv e1 l1 s1 en1 r1 => ?_
  refine rd_then (f := fun env x => (do setF P x f v; pure (Fl.nx env) : M Fl)) s1 en1 e1 fun x T2 R2 H2 xv e2 l2 s2 en2 r2 => ?_
  obtain ⟨_, T4, e4, e5⟩ := bind_ok e2
  obtain ⟨rfl, rfl⟩ := pure_ok e5
  obtain ⟨a, Ca, dx, fs, rfl, q1, q2, q3, q4, l3, s3⟩ := fld_ok C s2 r2 (Rep.mono l2 _ _ r1) e4
  exact ⟨a, Ca, dx, fs, rfl, q1, q2, q3, q4, po R2 _ σ (l1.trans (l2.trans l3)) s3 (en2.mono l3)⟩
theorem s_asgF (C : SxOk P call k N sc X) {o e : E} {f : Str} {x : Stmt} (h : chkS P N sc (.asgF o f e) x = true) : PS X x (rdS X.K (exec P call (.asgF o f e))) := by
  replace h : (match asgX x with
    | some q => decide (q.2.1 = f) && noCall0 q.1 && chkE P N sc o q.1 && chkE P N sc e q.2.2
    | none => false) = true := h
  split at h
  · rename_i q eq
    obtain ⟨p, pos, rfl⟩ := asgX_eq eq
    simp only [Bool.and_eq_true, decide_eq_true_eq] at h
    obtain ⟨⟨⟨rfl, _⟩, ho⟩, he⟩ := h
    exact PS.weak (ps_fld (soundE o _ N sc X C.c ho).pe (soundE e _ N sc X C.c he).pe sw_att) fun D σ H q => rdS_fld C.c q
  · cases h
theorem s_bad {x : Stmt} : PS X x (rdS X.K (exec P call .bad)) := by
  refine ⟨fun pins s σ H D I q => ?_⟩
  obtain ⟨R, T, env, r, T', st, en, e, po⟩ := q
  cases e
/-! ### o.f, o.g = v, w -/
def gFld (K : PySem.W.Frag) (to : TE) (f : Str) : TG := fun v σ H Q => to σ H fun x H1 => ∃ a C dx fs, x = .ref a ∧ H1 a = some (.ins C dx fs) ∧ Cls K C ∧ NoAttr K C f ∧ fs.length < 1000 ∧ Q σ (upd H1 a (.ins C dx (putF f v fs)))
theorem pg_fld {o : Expr} {to : TE} {f : Str} {pos : Pos} (ho : PE X o to)
    (ha : ∀ v, assign (.Attribute o f pos) X.env v = (do
      let ov ← holding [v] (eval o X.env)
      standAt pos.atName
      holding [v, ov] (setAttr ov f v)
      release [v, ov] []) := by intro _; rfl) : PG X (.Attribute o f pos) (gFld X.K to f) := by
  refine ⟨fun pins s σ H v u Q I r h => ?_⟩
  rw [ha]
  refine wpAny_bind (wpAny_holding (thn (ho.run pins s σ H _ I h) fun ov s1 hh => ?_))
  obtain ⟨x, H1, I1, r1, a, Ca, dx, fs, rfl, q1, q2, q3, q4, q5⟩ := hh
  obtain rfl : ov = Value.ref a := r1
  refine wpAny_bind (wpAny_standAt (wpAny_bind (wpAny_holding (setattr_ok I1 q1 q2 q3 q4 r fun s3 I3 => ?_))))
  exact wpAny_release ⟨σ, _, I3, q5⟩
def gFlds (K : PySem.W.Frag) (to : TE) : List Str → TGs
  | [] => gNil
  | f :: fs => gCons (gFld K to f) (gFlds K to fs)
theorem pgs_flds (C : CxOk P call k N sc X) {o : E} : ∀ {fs : List Str} {ts : List Expr}, chkF P N sc o fs ts = true → PGs X ts (gFlds X.K (rdE X.K (evalE P call o)) fs) ∧ (assignEach ts X.env).length = fs.length ∧ (assignEach ts X.env).findIdx? (·.1) = none
  | [], [], _ => ⟨pgs_nil, rfl, rfl⟩
  | [], _ :: _, h => by cases h
  | _ :: _, [], h => by cases h
  | f :: fs, t :: ts, h => by
    simp only [chkF, Bool.and_eq_true] at h
    obtain ⟨h1, h2⟩ := h
    split at h1
    · rename_i q e
      obtain ⟨p, rfl⟩ := attX_eq e
      simp only [Bool.and_eq_true, decide_eq_true_eq] at h1
      obtain ⟨rfl, ho⟩ := h1
      obtain ⟨g1, g2, g3⟩ := pgs_flds C h2
      refine ⟨pgs_cons (pg_fld (soundE o _ N sc X C ho).pe) g1 rfl, ?_, ?_⟩
      · show (assignEach ts X.env).length + 1 = _
        rw [g2]
        rfl
      · show ((false, assign (.Attribute q.1 q.2 p) X.env) :: assignEach ts X.env).findIdx? (·.1) = none
        rw [List.findIdx?_cons]
        simp [g3]
    · cases h1
theorem flds_ok (C : CxOk P call k N sc X) {i : Nat} {x : D} {σ : L2.St} {env : Env} {T' : Store} {Q : L2.St → Hp → Prop} : ∀ (fs : List Str) (ds : List D) (vs : List V) (R : Rho) (T : Store) (H : Hp), StOk X.K R T H → EnvOk X.K R H σ env → env[i]? = some (some x) → Reps X.K R H ds vs → setFs P x fs ds T = .ok () T' →
    (∀ R' H', Le R H R' H' → StOk X.K R' T' H' → EnvOk X.K R' H' σ env → Q σ H') → gFlds X.K (rdE X.K (evalE P call (.var i))) fs vs σ H Q
  | [], ds, vs, R, T, H, st, en, hi, rs, h, q => by
    cases ds with
    | cons _ _ => cases h
    | nil =>
      cases rs
      obtain ⟨_, rfl⟩ := pure_ok (show (pure () : M Unit) T = .ok () T' from h)
      exact ⟨rfl, q R H (Le.refl _ _) st en⟩
  | f :: fs, ds, vs, R, T, H, st, en, hi, rs, h, q => by
    cases ds with
    | nil => cases h
    | cons d ds =>
      obtain ⟨v, vs, rfl, r1, r2⟩ := rs
      obtain ⟨_, T1, e1, e2⟩ := bind_ok (show (setF P x f d >>= fun _ => setFs P x fs ds) T = .ok () T' from h)
      refine ⟨v, vs, rfl, R, T, env, x, T, st, en, ?_, fun R1 H1 xv l1 s1 rx => ?_⟩
      · show (match env[i]? with
          | some (some d) => (pure d : M D)
          | _ => fail) T = _
        rw [hi]
        rfl
      obtain ⟨a, Ca, dx, fs', rfl, q1, q2, q3, q4, l3, s3⟩ := fld_ok C s1 rx (Rep.mono l1 _ _ r1) e1
      exact ⟨a, Ca, dx, fs', rfl, q1, q2, q3, q4, flds_ok C fs ds vs R1 T1 _ s3 ((en.mono l1).mono l3) hi (Reps.mono (l1.trans l3) _ _ r2) e2 fun R' H' l' s' en' => q R' H' (l1.trans (l3.trans l')) s' en'⟩
theorem s_parF (C : SxOk P call k N sc X) {o : E} {fs : List Str} {es : List E} {x : Stmt} (h : chkS P N sc (.parF o fs es) x = true) : PS X x (rdS X.K (exec P call (.parF o fs es))) := by
  replace h : (match parX x with
    | some q => isVarE o && chkF P N sc o fs q.1 && Nat.beq es.length fs.length && Nat.ble fs.length 1000 && fwd sc q.1 (.Tuple q.2 0 ⟨0, 0, 0, 0⟩) && chkEs P N sc es q.2
    | none => false) = true := h
  split at h
  · rename_i q eq
    obtain ⟨kt, pt, k2, p2, pos, rfl⟩ := parX_eq eq
    simp only [Bool.and_eq_true] at h
    obtain ⟨⟨⟨⟨⟨hv, hf⟩, hle⟩, hlb⟩, hw⟩, he⟩ := h
    obtain ⟨g1, g2, g3⟩ := pgs_flds C.c hf
    have pg : PG X (.Tuple q.1 kt pt) (gTup X.K fs.length (gFlds X.K (rdE X.K (evalE P call o)) fs)) := pg_tup C.c.calm g1 g2 g3
    have pe := pe_tup (x1 := k2) (pos := p2) (soundEs es q.2 N sc X C.c he)
    refine PS.weak (ps_asg pe pg sw_tup (st_fwd (by rw [C.c.sc]; exact hw)) rfl) fun D σ H qq => ?_
    obtain ⟨R, T, env, r, T', st, en, e, po⟩ := qq
    cases o <;> first | (cases hv; done) | skip
    rename_i i
    refine rdA_then (f := fun env vs => (do let x ← evalE P call (.var i) env; setFs P x fs vs; pure (Fl.nx env) : M Fl)) st en e fun ds T1 R1 H1 vs e1 l1 s1 en1 r1 => ?_
    obtain ⟨x, T2, e2, e3⟩ := bind_ok e1
    obtain ⟨_, T3, e4, e5⟩ := bind_ok e3
    obtain ⟨rfl, rfl⟩ := pure_ok e5
    have hx : env[i]? = some (some x) ∧ T2 = T1 := by
      replace e2 : varD env[i]? T1 = .ok x T2 := e2
      cases h1 : env[i]? with
      | none => rw [h1] at e2; cases e2
      | some u =>
        cases u with
        | none => rw [h1] at e2; cases e2
        | some d =>
          rw [h1] at e2
          obtain ⟨rfl, rfl⟩ := pure_ok e2
          exact ⟨rfl, rfl⟩
    obtain ⟨hx, rfl⟩ := hx
    have hlen : ∀ (fs : List Str) (ds : List Pz.D) (T T' : Store), setFs P x fs ds T = .ok () T' → ds.length = fs.length := by
      intro fs
      induction fs with
      | nil => intro ds T T' h; cases ds with
        | nil => rfl
        | cons _ _ => cases h
      | cons f fs ih => intro ds T T' h; cases ds with
        | nil => cases h
        | cons d ds =>
          obtain ⟨_, T1, z1, z2⟩ := bind_ok (show (setF P x f d >>= fun _ => setFs P x fs ds) T = .ok () T' from h)
          rw [List.length_cons, List.length_cons, ih ds T1 T' z2]
    have hl := hlen _ _ _ _ e4
    refine ⟨?_, fun p hp => ?_⟩
    · rw [r1.length, hl]
      exact Nat.le_trans (Nat.le_of_ble_eq_true hlb) (by decide)
    · obtain ⟨l2, s2⟩ := s1.other (o := .tup vs) hp
      refine ⟨p, vs, rfl, SqT.of upd_same, by rw [r1.length]; exact hl, ?_⟩
      exact flds_ok C.c fs ds vs R1 T2 _ s2 (en1.mono l2) hx (Reps.mono l2 _ _ r1) e4 fun R' H' l' s' en' => po R' H' σ (l1.trans (l2.trans l')) s' en'
  · cases h
end
end Pz

set_option Elab.async false
set_option linter.all false
set_option maxRecDepth 100000
set_option maxHeartbeats 8000000
/-! I13b: the theorem of statements. -/
namespace Pz
open PySem PySem.Spec L2
section
variable {P : Prog} {call : Nat → List D → M D} {k : Nat}
mutual
theorem soundS : ∀ (s : S) (x : Stmt) (N : List Str) (sc : Scope) (X : Cx), SxOk P call k N sc X → chkS P N sc s x = true → PS X x (rdS X.K (exec P call s))
  | .expr e, x, N, sc, X, C, h => s_expr C h
  | .asg t e, x, N, sc, X, C, h => s_asg C h
  | .ret e, x, N, sc, X, C, h => s_ret C h
  | .retN, x, N, sc, X, C, h => s_retN C h
  | .brk, x, N, sc, X, C, h => s_brk C h
  | .cnt, x, N, sc, X, C, h => s_cnt C h
  | .pass, x, N, sc, X, C, h => s_pass C h
  | .bad, x, N, sc, X, C, h => s_bad
  | .asgF o f e, x, N, sc, X, C, h => s_asgF C h
  | .parF o fs es, x, N, sc, X, C, h => s_parF C h
  | .par2 i j a b, x, N, sc, X, C, h => s_par2' C h
  | .par3 i j l a b c, x, N, sc, X, C, h => s_par3' C h
  | .asgIdx o i e, x, N, sc, X, C, h => s_idx C h
  | .aug i op e, x, N, sc, X, C, h => s_aug C h
  | .ifs c a b, x, N, sc, X, C, h => s_ifs C (fun y hy => soundSs a y N sc X C hy) (fun y hy => soundSs b y N sc X C hy) h
  | .loop t it body, x, N, sc, X, C, h => s_loop C (fun y hy => soundSs body y N sc X C hy) h
  | .whil n c body, x, N, sc, X, C, h => s_whil C (fun y hy => soundSs body y N sc X C hy) h
theorem soundSs : ∀ (ss : List S) (xs : List Stmt) (N : List Str) (sc : Scope) (X : Cx), SxOk P call k N sc X → chkSs P N sc ss xs = true → PSs X xs (rdS X.K (execs P call ss))
  | [], xs, N, sc, X, C, h => by
    cases xs with
    | cons _ _ => cases h
    | nil =>
      refine PSs.weak pss_nil fun D σ H q => ?_
      obtain ⟨R, T, env, r, T', st, en, e, po⟩ := q
      obtain ⟨rfl, rfl⟩ := pure_ok e
      exact po R H σ (Le.refl _ _) st en
  | s :: ss, xs, N, sc, X, C, h => by
    cases xs with
    | nil => cases h
    | cons x xs =>
      simp only [chkSs, Bool.and_eq_true] at h
      exact PSs.weak (pss_cons (soundS s x N sc X C h.1) (soundSs ss xs N sc X C h.2)) fun D σ H q => rdS_seq q
end
end
end Pz

set_option Elab.async false
set_option linter.all false
set_option maxRecDepth 100000
set_option maxHeartbeats 4000000
/-! I14: calls, to any depth. -/
namespace Pz
open PySem PySem.Spec L2

def Fn.dnm (fn : Fn) : Str := fn.dn.getD fn.name
def Fn.qnm (fn : Fn) : Str := fn.qn.getD fn.name
/-- a def stands where it should, its text is that of the IR, its parameters are bound -/
structure FnH (P : Prog) (K : PySem.W.Frag) (mg : Str → Option Value) (fn : Fn) : Prop where
  ex : ∃ (a : Addr) (fd : FuncData) (pa : Arguments) (body : List Stmt) (sc : Scope) (dvs : List V) (dus : List Value), FnAt K mg fn a ∧ FunD K fn.dnm fn.qnm pa body sc dvs [] a fd ∧ FnScope fn.N fn.ps sc ∧ chkSs P fn.N sc fn.body body = true ∧
    (∀ R H, Reps K R H fn.dfl dvs) ∧ Vals dvs dus ∧ BindsAll K fd fn.ps dus ∧
    (∀ ks ∈ fn.kws, ∀ m, ∀ (s : Shared) (us ws : List Value), us.length = m → ws.length = ks.length → bindOk fn.ps m ks = true → BindsTo s fd ⟨us, ks.zip ws⟩ (fn.ps.zip (kwG fn.ps ks us ws)))

theorem env_start {K : PySem.W.Frag} {R : Rho} {H : Hp} {ds : List D} {vs : List V} (r : Reps K R H ds vs) (N : List Str) : EnvOk K R H (L2.start N vs) (ds.map some ++ List.replicate (N.length - ds.length) none) := by
  have hl := r.length
  refine ⟨by simp [L2.start, hl], fun i d e => ?_⟩
  by_cases hi : i < ds.length
  · rw [List.getElem?_append_left (by simpa using hi), List.getElem?_map] at e
    cases h : ds[i]? with
    | none => rw [h] at e; cases e
    | some d' =>
      rw [h] at e
      cases e
      obtain ⟨v, h1, h2⟩ := r.get h
      refine ⟨v, ?_, h2⟩
      unfold L2.start
      rw [List.getElem?_append_left (by simp [hl]; exact hi), List.getElem?_map, h1]
      rfl
  · rw [List.getElem?_append_right (by simpa using hi)] at e
    rw [List.getElem?_replicate] at e
    split at e <;> cases e

theorem runFn_ok {P : Prog} {call : Nat → List D → M D} {f : Nat} {fn : Fn} (hf : P.fns[f]? = some fn) {ds : List D} {T T' : Store} {d : D} (h : runFn P call f ds T = .ok d T') : ds.length = fn.ps.length ∧ fn.ps.length ≤ fn.N.length ∧
    ((∃ r T1, execs P call fn.body (ds.map some ++ List.replicate (fn.N.length - ds.length) none) T = .ok r T1 ∧ T' = gcS fn.gc T T1 d ∧ (r = .rt d ∨ ((∃ env, r = .nx env) ∧ d = .non))) ∨
    (ds = [] ∧ T' = T ∧ closD 0 d = true ∧ ∃ r T1, execs P call fn.body (([] : List D).map some ++ List.replicate (fn.N.length - ([] : List D).length) none) [] = .ok r T1 ∧ (r = .rt d ∨ ((∃ env, r = .nx env) ∧ d = .non)))) := by
  unfold runFn at h
  rw [hf] at h
  simp only at h
  cases hb : (Nat.beq ds.length fn.ps.length && Nat.ble fn.ps.length fn.N.length) with
  | false => rw [hb] at h; cases h
  | true =>
    rw [hb] at h
    simp only [Bool.and_eq_true] at hb
    refine ⟨Nat.eq_of_beq_eq_true hb.1, Nat.le_of_ble_eq_true hb.2, ?_⟩
    cases ds with
    | nil =>
      refine .inr ⟨rfl, ?_⟩
      dsimp only at h
      cases e1 : execs P call fn.body (([] : List D).map some ++ List.replicate (fn.N.length - ([] : List D).length) none) [] with
      | bad => rw [e1] at h; cases h
      | ok r T1 =>
        rw [e1] at h
        cases r with
        | rt x =>
          simp only [endFn0, okIf] at h
          cases hc : closD 0 x with
          | false => rw [hc] at h; cases h
          | true =>
            rw [hc] at h
            cases h
            exact ⟨rfl, hc, _, T1, rfl, .inl rfl⟩
        | nx env => cases h; exact ⟨rfl, rfl, _, T1, rfl, .inr ⟨⟨env, rfl⟩, rfl⟩⟩
        | bk _ => cases h
        | ct _ => cases h
    | cons d0 ds =>
      refine .inl ?_
      dsimp only at h
      cases e1 : execs P call fn.body ((d0 :: ds).map some ++ List.replicate (fn.N.length - (d0 :: ds).length) none) T with
      | bad => rw [e1] at h; cases h
      | ok r T1 =>
        rw [e1] at h
        refine ⟨r, T1, rfl, ?_⟩
        cases r with
        | rt x => cases h; exact ⟨rfl, .inl rfl⟩
        | nx env => cases h; exact ⟨rfl, .inr ⟨⟨env, rfl⟩, rfl⟩⟩
        | bk _ => cases h
        | ct _ => cases h

/-- a store of its own: the cells are kept aside -/
def Rho.aside (R : Rho) (T : Store) : Rho := { cell := [], fz := R.fz, kp := fun a => R.kp a ∨ ∃ (n : Nat) (c : Cell), R.cell[n]? = some a ∧ T[n]? = some c ∧ alive c = true }
theorem CellOk.noTup {K : PySem.W.Frag} {R : Rho} {H : Hp} {a : Addr} {c : Cell} (h : CellOk K R H a c) (al : alive c = true) : ∃ o, H a = some o ∧ noTup o = true := by
  cases c with
  | dead => cases al
  | lst ds => obtain ⟨vs, q, _⟩ := h; exact ⟨_, q, rfl⟩
  | obj c ns ds => obtain ⟨vs, ⟨dx, q, _⟩, _⟩ := h; exact ⟨_, q, rfl⟩
  | dic t kvs =>
    cases t
    · obtain ⟨ks, q, _⟩ := h; exact ⟨_, q, rfl⟩
    · obtain ⟨ks, q, _⟩ := h; exact ⟨_, q, rfl⟩
theorem StOk.own0 {K : PySem.W.Frag} {R : Rho} {T : Store} {H : Hp} (st : StOk K R T H) : StOk K (R.aside T) [] H := by
  refine ⟨rfl, fun n a c ha => by simp [Rho.aside] at ha, fun n m a c c' ha => by simp [Rho.aside] at ha, st.fz, fun a h => ?_⟩
  rcases h with h | ⟨n, c, h1, h2, al⟩
  · exact st.kp a h
  · obtain ⟨q1, q2, q3⟩ := st.cell n a c h1 h2 al
    exact ⟨q2, q1.noTup al⟩
theorem StOk.back {K : PySem.W.Frag} {R R1 : Rho} {T T1 : Store} {H H1 : Hp} {d : D} {v : V} (st : StOk K R T H) (l : Le (R.aside T) H R1 H1) (s1 : StOk K R1 T1 H1) (r : Rep K R1 H1 d v) (hc : closD 0 d = true) : ∃ R3, Le R H R3 H1 ∧ StOk K R3 T H1 ∧ Rep K R3 H1 d v := by
  have le : Le R H { cell := R.cell, fz := R1.fz, kp := R.kp } H1 := ⟨⟨[], by simp⟩, l.fz, rfl, fun a h => l.kh a (.inl h)⟩
  refine ⟨_, le, ⟨st.len, fun n a c ha hc' al => ?_, st.inj, s1.fz, fun a h => s1.kp a (by rw [l.kp]; exact .inl h)⟩, ?_⟩
  · obtain ⟨q1, q2, q3⟩ := st.cell n a c ha hc' al
    have hk : (R.aside T).kp a := .inr ⟨n, c, ha, hc', al⟩
    exact ⟨q1.mono le (l.kh a hk), (s1.kp a (by rw [l.kp]; exact hk)).1, q3⟩
  · exact Rep.monoW (R := { R1 with cell := [] }) (R' := { cell := R.cell, fz := R1.fz, kp := R.kp }) ⟨⟨R.cell, rfl⟩, fun a h => ⟨h, rfl⟩⟩ d v (Rep.cut (cs := []) (more := R1.cell) (by simp) d v hc r)

/-- the body of a def -/
theorem body_ok {P : Prog} {p : Program} {w : World} {K : PySem.W.Frag} {mg : Str → Option Value} {base : Heap} (g : GOk P K mg) {n k : Nat} (ih : FOk P (callN P n) k p w K mg base) {f : Nat} {fn : Fn} (e : P.fns[f]? = some fn) {a : Addr} {fd : FuncData} {pa : Arguments} {body : List Stmt} {sc : Scope} {x qual : Str} {dvs : List V} {kws : List (Str × V)}
    (h2 : FunD K x qual pa body sc dvs kws a fd) (h3 : FnScope fn.N fn.ps sc) (h4 : chkSs P fn.N sc fn.body body = true) : FnOk p w K mg base CX0 (k + 1 + 1) a fd fn.ps (spF K fn.ps.length (callN P (n + 1) f)) := by
  refine h2.ok h3 (fun vs H Q E q => q.1) fun cdv A outer s H vs Q E hr q => ⟨rdS K (execs P (callN P n) fn.body), PSs.nox ?_, ?_⟩
  · exact soundSs fn.body body fn.N sc _ ⟨⟨rfl, h3.nd, rfl, rfl, hr, g, ih⟩, h3.kind, rfl, PassesOwn.never⟩ h4
  · obtain ⟨hn, R, T, xs, d, T', st, rx, e1, po⟩ := q
    obtain ⟨l1, l2, ⟨r, T1, e2, rfl, hr2⟩ | ⟨rfl, rfl, hc, r, T1, e2, hr2⟩⟩ := runFn_ok e e1
    · refine ⟨R, T, _, r, T1, st, env_start rx fn.N, e2, ?_⟩
      rcases hr2 with rfl | ⟨⟨env, rfl⟩, rfl⟩
      · exact fun R' H' v l s' r' => let ⟨R3, l3, s3, r3⟩ := gc_ok st l s' r'; po R3 H' v l3 s3 r3
      · exact fun R' H' σ' l s' _ => let ⟨R3, l3, s3, r3⟩ := gc_ok (d := .non) (v := .non) st l s' rfl; po R3 H' .non l3 s3 r3
    · have rx0 : Reps K (R.aside T') H [] vs := rx
      refine ⟨R.aside T', [], _, r, T1, st.own0, env_start rx0 fn.N, e2, ?_⟩
      rcases hr2 with rfl | ⟨⟨env, rfl⟩, rfl⟩
      · exact fun R' H' v l s' r' => let ⟨R3, l3, s3, r3⟩ := st.back l s' r' hc; po R3 H' v l3 s3 r3
      · exact fun R' H' σ' l s' _ => let ⟨R3, l3, s3, r3⟩ := st.back (d := .non) (v := .non) l s' rfl rfl; po R3 H' .non l3 s3 r3
theorem fok {P : Prog} {p : Program} {w : World} {K : PySem.W.Frag} {mg : Str → Option Value} {base : Heap} (g : GOk P K mg) (hf : ∀ (f : Nat) fn, P.fns[f]? = some fn → FnH P K mg fn) : ∀ n, FOk P (callN P n) (2 * n) p w K mg base
  | 0 => by
    refine ⟨fun f fn e => ?_, fun f fn e xs T d T' h => by cases h⟩
    obtain ⟨a, fd, pa, body, sc, dvs, dus, h1, h2, h3, h4, h5, h6, h7, h8⟩ := (hf f fn e).ex
    refine ⟨a, fd, dvs, dus, h1, h2.kp, ⟨fun vs H Q E q => q.1, fun A outer s H args us vs Q E hr he hb hv hs => ?_⟩, h5, h6, h7, h8⟩
    obtain ⟨_, R, T, xs, d, T', _, _, e, _⟩ := hs
    cases e
  | n + 1 => by
    have ih := fok (p := p) (w := w) (base := base) g hf n
    refine ⟨fun f fn e => ?_, fun f fn e xs T d T' h => (runFn_ok e h).1⟩
    obtain ⟨a, fd, pa, body, sc, dvs, dus, h1, h2, h3, h4, h5, h6, h7, h8⟩ := (hf f fn e).ex
    exact ⟨a, fd, dvs, dus, h1, h2.kp, body_ok g ih e h2 h3 h4, h5, h6, h7, h8⟩
/-- a def of which it is known where it stands -/
theorem fok_fn {P : Prog} {p : Program} {w : World} {K : PySem.W.Frag} {mg : Str → Option Value} {base : Heap} (g : GOk P K mg) (hf : ∀ (f : Nat) fn, P.fns[f]? = some fn → FnH P K mg fn) (n : Nat) {f : Nat} {fn : Fn} (e : P.fns[f]? = some fn) {a : Addr} {fd : FuncData} {pa : Arguments} {body : List Stmt} {sc : Scope} {x qual : Str} {dvs : List V} {kws : List (Str × V)}
    (h2 : FunD K x qual pa body sc dvs kws a fd) (h3 : FnScope fn.N fn.ps sc) (h4 : chkSs P fn.N sc fn.body body = true) : FnOk p w K mg base CX0 (2 * n + 1 + 1) a fd fn.ps (spF K fn.ps.length (callN P (n + 1) f)) := body_ok g (fok (p := p) (w := w) (base := base) g hf n) e h2 h3 h4
end Pz

set_option Elab.async false
set_option linter.all false
set_option maxRecDepth 100000
set_option maxHeartbeats 4000000
/-! I15: the end. -/
namespace Pz
open PySem PySem.Spec L2

/-! ### the top's constants -/
def dvOf : D → Option He.Dv
  | .non => some .non
  | .bl b => some (.bl b)
  | .int i => some (.int i)
  | .str x => some (.str x)
  | _ => none
def dvsOf : List D → Option (List He.Dv)
  | [] => some []
  | d :: ds => match dvOf d, dvsOf ds with
    | some v, some vs => some (v :: vs)
    | _, _ => none
theorem dv_rep {K : PySem.W.Frag} {R : Rho} {H : Hp} {d : D} {v : He.Dv} (h : dvOf d = some v) : Rep K R H d (v.v K) := by
  cases d <;> cases h <;> rfl
theorem dvs_rep {K : PySem.W.Frag} {R : Rho} {H : Hp} : ∀ {ds : List D} {vs : List He.Dv}, dvsOf ds = some vs → Reps K R H ds (vs.map (He.Dv.v K))
  | [], vs, h => by cases h; rfl
  | d :: ds, vs, h => by
    unfold dvsOf at h
    split at h
    · rename_i v r e1 e2
      cases h
      exact ⟨_, _, rfl, dv_rep e1, dvs_rep e2⟩
    · cases h
def cnB (K : PySem.W.Frag) (x : Str) (d : D) : Bool := match d with
  | .ext true ds => match dvsOf ds with
    | some vs => He.eqO (PySem.W.nsIn K mainGlobals x) (some (some (.ref (He.ga K x)))) && He.tupB K x vs
    | none => false
  | d => match dvOf d with
    | some v => match PySem.W.nsIn K mainGlobals x with
      | some (some u) => He.relB (v.v K) u
      | _ => false
    | none => false
theorem cnB_ok {K : PySem.W.Frag} {h : Heap} {mg : Str → Option Value} (X : K.In h) (G : h.Ns mainGlobals mg) {x : Str} {d : D} (c : cnB K x d = true) : ∃ v u, mg x = some u ∧ RelV v u ∧ ∀ R H, Rep K R H d v := by
  have gen : (match dvOf d with
    | some v => match PySem.W.nsIn K mainGlobals x with
      | some (some u) => He.relB (v.v K) u
      | _ => false
    | none => false) = true → ∃ v u, mg x = some u ∧ RelV v u ∧ ∀ R H, Rep K R H d v := by
    intro c
    split at c
    · rename_i v e
      split at c
      · rename_i u e2
        exact ⟨_, u, PySem.W.mg_of X G e2, He.relB_ok c, fun R H => dv_rep e⟩
      · cases c
    · cases c
  cases d with
  | ext t ds =>
    cases t with
    | false => exact gen c
    | true =>
      have c : (match dvsOf ds with
        | some vs => He.eqO (PySem.W.nsIn K mainGlobals x) (some (some (.ref (He.ga K x)))) && He.tupB K x vs
        | none => false) = true := c
      split at c
      · rename_i vs e
        simp only [Bool.and_eq_true] at c
        exact ⟨.ref (He.ga K x), _, PySem.W.mg_of X G (He.eqO_ok c.1), rfl, fun R H => ⟨_, _, rfl, He.tupB_ok c.2 _, dvs_rep e⟩⟩
      · cases c
  | _ => exact gen c

/-! ### where defs stand -/
def adrOf (K : PySem.W.Frag) (fn : Fn) : Addr := match fn.own with
  | .top => He.ga K fn.name
  | .meth c => He.ma K (He.ga K c) fn.name
  | .prop c => (match PySem.W.recIn K (He.ma K (He.ga K c) fn.name) "property" with
    | some (.ref g :: _) => g
    | _ => 0)
  | .stat c => He5.wf K (He.ga K c) "staticmethod" fn.name
/-- the j-th default -/
def dflAdr (K : PySem.W.Frag) (a : Addr) (j : Nat) : Addr := match K.lookup a with
  | some ⟨_, _, .func fd, _⟩ => (match fd.defaults with
    | .ref T => (match K.lookup T with
      | some ⟨_, _, .seq its _, _⟩ => (match its[j]? with
        | some (.ref b) => b
        | _ => 0)
      | _ => 0)
    | _ => 0)
  | _ => 0
def tup0B (K : PySem.W.Frag) (b : Addr) : Bool := match K.lookup b with
  | some ⟨.type c, _, .seq its _, _⟩ => decide (c = "tuple") && Nat.beq its.size 0
  | _ => false
theorem tup0B_ok {K : PySem.W.Frag} {b : Addr} (h : tup0B K b = true) (H : Hp) : SqT K H b [] := by
  unfold tup0B at h
  cases q : K.lookup b with
  | none => rw [q] at h; cases h
  | some o =>
    obtain ⟨oc, od, dt, osl⟩ := o
    rw [q] at h
    cases oc with
    | type c =>
      cases dt with
      | seq its n =>
        obtain ⟨h1, h2⟩ := He.ba (show (decide (c = "tuple") && Nat.beq its.size 0) = true from h)
        have hz : its = #[] := Array.eq_empty_of_size_eq_zero (Nat.eq_of_beq_eq_true h2)
        subst hz
        exact .inr ⟨_, #[], n, q, congrArg Value.type (of_decide_eq_true h1), rfl, by decide, .nil⟩
      | _ => cases h
    | _ => cases dt <;> cases h
/-- a default of a def -/
def dvD (fn : Fn) (j : Nat) (d : D) : He.Dv := match dvOf d with
  | some v => v
  | none => .adr fun K => dflAdr K (adrOf K fn) j
def dvsD (fn : Fn) : Nat → List D → List He.Dv
  | _, [] => []
  | j, d :: ds => dvD fn j d :: dvsD fn (j + 1) ds
/-- an empty tuple, or an atom -/
def dflOk (K : PySem.W.Frag) (fn : Fn) : Nat → List D → Bool
  | _, [] => true
  | j, d :: ds => (match dvOf d with
    | some _ => true
    | none => match d with
      | .ext true [] => tup0B K (dflAdr K (adrOf K fn) j)
      | _ => false) && dflOk K fn (j + 1) ds
theorem dflOk_rep {K : PySem.W.Frag} {fn : Fn} {R : Rho} {H : Hp} : ∀ {ds : List D} {j : Nat}, dflOk K fn j ds = true → Reps K R H ds ((dvsD fn j ds).map (He.Dv.v K))
  | [], j, _ => rfl
  | d :: ds, j, h => by
    simp only [dflOk, Bool.and_eq_true] at h
    refine Reps.cons ?_ (dflOk_rep h.2)
    have h1 := h.1
    unfold dvD
    split at h1
    · rename_i v e
      exact dv_rep e
    · rename_i e
      split at h1
      · have := tup0B_ok h1 (fun _ => none)
        exact ⟨_, [], rfl, this, rfl⟩
      · cases h1
/-- a def as it should stand -/
def defOf (st : Stmt) (fn : Fn) : He5.DefA := { at_ := fun K => adrOf K fn, name := fn.dnm, qual := fn.qnm, params := defArgs st, body := defBody st, scope := defScope st, dfl := dvsD fn 0 fn.dfl, kwd := [] }
def fnB (K : PySem.W.Frag) (fn : Fn) : Bool := dflOk K fn 0 fn.dfl && match fn.own with
  | .top => He.eqO (PySem.W.nsIn K mainGlobals fn.name) (some (some (.ref (He.ga K fn.name))))
  | .meth c => (He.Fa.meth c fn.name).ok K && PySem.W.fnIn K (He.ma K (He.ga K c) fn.name)
  | .prop c => He.eqO (PySem.W.findIn K (.ref (He.ga K c)) fn.name) (some (some (.ref (He.ma K (He.ga K c) fn.name)))) && (He.eqO (PySem.W.specialIn K (.ref (He.ma K (He.ga K c) fn.name)) "__get__") (some (some (.builtin "property.__get__"))) &&
    (decide (PySem.W.takesIn K (.ref (He.ma K (He.ga K c) fn.name)) = some true) && (match PySem.W.recIn K (He.ma K (He.ga K c) fn.name) "property" with
      | some (.ref _ :: _) => true
      | _ => false)))
  | .stat c => He5.wrapB K (He.ga K c) "staticmethod" "staticmethod.__get__" fn.name
theorem fnB_ok {K : PySem.W.Frag} {h : Heap} {mg : Str → Option Value} (X : K.In h) (G : h.Ns mainGlobals mg) {fn : Fn} (c : fnB K fn = true) : FnAt K mg fn (adrOf K fn) ∧ ∀ R H, Reps K R H fn.dfl ((dvsD fn 0 fn.dfl).map (He.Dv.v K)) := by
  unfold fnB at c
  rw [Bool.and_eq_true] at c
  refine ⟨?_, fun R H => dflOk_rep c.1⟩
  have c := c.2
  unfold FnAt adrOf
  split at c
  · rename_i ho
    try rw [ho]
    exact PySem.W.mg_of X G (He.eqO_ok c)
  · rename_i cl ho
    try rw [ho]
    obtain ⟨c1, c2⟩ := He.ba c
    exact ⟨He.meth_ok c1, c2⟩
  · rename_i cl ho
    try rw [ho]
    obtain ⟨c1, c⟩ := He.ba c
    obtain ⟨c2, c⟩ := He.ba c
    obtain ⟨c3, c4⟩ := He.ba c
    try dsimp only
    split at c4
    · rename_i g r e
      refine ⟨_, He.eqO_ok c1, He.eqO_ok c2, of_decide_eq_true c3, r, ?_⟩
      rw [e]
    · cases c4
  · rename_i cl ho
    try rw [ho]
    obtain ⟨h1, h2⟩ := He5.wrapB_ok c
    exact ⟨_, h1, h2⟩
/-! ### classes -/
def tyAll : List Ty := [.int, .bool, .str, .list, .tuple]
def tblB (P : Prog) (own : Own → Bool) (l : List (Str × Nat)) : Bool := l.all fun q => match P.fns[q.2]? with
  | some fn => decide (fn.name = q.1) && own fn.own
  | none => false
def isMeth (c : Str) : Own → Bool
  | .meth d => decide (d = c)
  | _ => false
def isProp (c : Str) : Own → Bool
  | .prop d => decide (d = c)
  | _ => false
def isStat (c : Str) : Own → Bool
  | .stat d => decide (d = c)
  | _ => false
def wfC (P : Prog) (cd : ClsD) : Bool := tblB P (isMeth cd.name) cd.mths && (tblB P (isProp cd.name) cd.prps && tblB P (isStat cd.name) cd.stas)
def clB (P : Prog) (K : PySem.W.Frag) (cd : ClsD) : Bool := (He.Fa.glo cd.name).ok K && ((He.Fa.cls cd.name).ok K && ((cd.flds.all fun f => (He.Fa.noat cd.name f).ok K) && (PySem.W.makesIn K (He.ga K cd.name) && (PySem.W.keepIn K (.ref (He.ga K cd.name)) && (PySem.W.readsIn K (He.ga K cd.name) (.type "type") &&
  (He.eqO (PySem.W.specialIn K (.ref (He.ga K cd.name)) "__getattribute__") (some (some (.builtin "type.__getattribute__"))) && (He.eqO (PySem.W.findIn K (.ref (He.ga K cd.name)) "__ne__") (some (some (.builtin "object.__ne__"))) && (PySem.W.selfFirst K (He.ga K cd.name) && (PySem.W.noSeq K (He.ga K cd.name) &&
  (He.eqO (PySem.W.findIn K (.ref (He.ga K cd.name)) "__class__") (some (some (.builtin "object.__class__"))) && (He.eqO (PySem.W.specialIn K (.builtin "object.__class__") "__get__") (some (some (.builtin "getset_descriptor.__get__"))) && (decide (PySem.W.takesIn K (.builtin "object.__class__") = some true) &&
  (decide (PySem.W.mroIn K (He.ga K cd.name) (.type "object") = some true) && ((tyAll.all fun t => decide (PySem.W.kitOne K (.ref (He.ga K cd.name)) (.type (tyS t)) = some false)) && ((bltTys.all fun n => decide (PySem.W.kitOne K (.type n) (.ref (He.ga K cd.name)) = some false) && decide (PySem.W.subIn K (.type n) (.ref (He.ga K cd.name)) = some false)) &&
  (P.cls.all fun cd2 => decide (PySem.W.kitOne K (.ref (He.ga K cd2.name)) (.ref (He.ga K cd.name)) = some (decide (cd2.name = cd.name))) && PySem.W.notFirst K (He.ga K cd.name) (.ref (He.ga K cd2.name))))))))))))))))))
theorem tblB_ok {P : Prog} {own : Own → Bool} {l : List (Str × Nat)} (h : tblB P own l = true) : ∀ q ∈ l, ∃ fn, P.fns[q.2]? = some fn ∧ fn.name = q.1 ∧ own fn.own = true := by
  intro q hq
  have := List.all_eq_true.mp h q hq
  split at this
  · rename_i fn e
    simp only [Bool.and_eq_true, decide_eq_true_eq] at this
    exact ⟨fn, e, this.1, this.2⟩
  · cases this
theorem clB_ok {P : Prog} {K : PySem.W.Frag} {h : Heap} {mg : Str → Option Value} (X : K.In h) (G : h.Ns mainGlobals mg) {cd : ClsD} (wf : wfC P cd = true) (c : clB P K cd = true) : ClOk P K mg cd := by
  obtain ⟨w1, w⟩ := He.ba wf
  obtain ⟨w2, w3⟩ := He.ba w
  obtain ⟨c1, c⟩ := He.ba c
  obtain ⟨c2, c⟩ := He.ba c
  obtain ⟨c3, c⟩ := He.ba c
  obtain ⟨c4, c⟩ := He.ba c
  obtain ⟨c5, c⟩ := He.ba c
  obtain ⟨c6, c⟩ := He.ba c
  obtain ⟨c7, c⟩ := He.ba c
  obtain ⟨c8, c⟩ := He.ba c
  obtain ⟨c9, c⟩ := He.ba c
  obtain ⟨c10, c⟩ := He.ba c
  obtain ⟨c11, c⟩ := He.ba c
  obtain ⟨c12, c⟩ := He.ba c
  obtain ⟨c13, c⟩ := He.ba c
  obtain ⟨c14, c⟩ := He.ba c
  obtain ⟨c15, c⟩ := He.ba c
  obtain ⟨c16, c17⟩ := He.ba c
  refine { glo := He.glo_ok X G c1, cls := He.cls_ok c2, fld := fun f hf => He.noat_ok (List.all_eq_true.mp c3 f hf), mth := ?_, prp := ?_, sta := ?_, mkr := c4, kp := c5, rd := c6, gat := He.eqO_ok c7, ne := He.eqO_ok c8, sf := c9, nsq := c10, cla := He.eqO_ok c11, clg := He.eqO_ok c12, clt := of_decide_eq_true c13, mro := of_decide_eq_true c14, kit := ?_, tik := ?_, own := ?_ }
  · intro q hq
    obtain ⟨fn, h1, h2, h3⟩ := tblB_ok w1 q hq
    refine ⟨fn, h1, h2, ?_⟩
    cases ho : fn.own <;> rw [ho] at h3 <;> first | (cases h3; done) | (rw [of_decide_eq_true h3])
  · intro q hq
    obtain ⟨fn, h1, h2, h3⟩ := tblB_ok w2 q hq
    refine ⟨fn, h1, h2, ?_⟩
    cases ho : fn.own <;> rw [ho] at h3 <;> first | (cases h3; done) | (rw [of_decide_eq_true h3])
  · intro q hq
    obtain ⟨fn, h1, h2, h3⟩ := tblB_ok w3 q hq
    refine ⟨fn, h1, h2, ?_⟩
    cases ho : fn.own <;> rw [ho] at h3 <;> first | (cases h3; done) | (rw [of_decide_eq_true h3])
  · intro t
    exact of_decide_eq_true (List.all_eq_true.mp c15 t (by cases t <;> decide))
  · intro n hn
    obtain ⟨z1, z2⟩ := He.ba (List.all_eq_true.mp c16 n hn)
    exact ⟨of_decide_eq_true z1, of_decide_eq_true z2⟩
  · intro cd2 hc
    obtain ⟨z1, z2⟩ := He.ba (List.all_eq_true.mp c17 cd2 hc)
    exact ⟨of_decide_eq_true z1, z2⟩
/-! ### what is seen behind the top -/
abbrev AlP : Type := Bool × List He5.FnW
def obsP (P : Prog) (sts : List Stmt) (K : PySem.W.Frag) : AlP :=
  ((bltNames.all fun x => (He.Fa.free x).ok K) && ((P.cns.all fun q => cnB K q.1 q.2) && ((P.fns.all fun f => fnB K f) && ((P.cls.all fun c => clB P K c) && ((sts.zip P.fns).all fun q => (defOf q.1 q.2).ok K)))), (sts.zip P.fns).map fun q => He5.fnA K (adrOf K q.2))
def valP (P : Prog) (sts : List Stmt) : AlP := (true, (sts.zip P.fns).map fun q => (defOf q.1 q.2).val)
def obsPG (n : Nat) (P : Prog) (sts : List Stmt) (g : Addr → Option Obj) : AlP := obsP P sts (He.frG g (He5.asA g n))
def hookP (n : Nat) (P : Prog) (sts : List Stmt) : PySem.W.Hook where
  α := AlP
  obs := fun s => obsPG n P sts s.heap.get?
  val := fun _ => valP P sts
  says := fun _ h => ∃ K : PySem.W.Frag, K.In h ∧ obsP P sts K = valP P sts
  of := fun _ _ e => ⟨_, He.frG_in, e⟩
  keeps := fun _ _ _ ⟨K, hK, c⟩ k => ⟨K, PySem.W.Frag.In.keeps hK k, c⟩
theorem obsPG_eq {n : Nat} {P : Prog} {sts : List Stmt} {g : Addr → Option Obj} {s : Shared} (h : ∀ a, g a = s.heap.get? a) : obsPG n P sts g = (hookP n P sts).obs s := by
  have e : g = s.heap.get? := funext h
  rw [e] <;> rfl

/-! ### the defs -/
def fnScB (N ps : List Str) (sc : Scope) : Bool := decide (sc.kind = .function) && !sc.isCoroutine && !sc.isGenerator && decide N.Nodup && decide (N.take ps.length = ps) && ps.all (fun x => decide (sc.names.lookup x = some .local) || decide (sc.names.lookup x = some .cell)) && sc.names.all (fun y => !decide (y.2 = .free))
theorem fnScB_ok {N ps : List Str} {sc : Scope} (h : fnScB N ps sc = true) : FnScope N ps sc := by
  unfold fnScB at h
  simp only [Bool.and_eq_true, Bool.not_eq_true', decide_eq_true_eq, List.all_eq_true, Bool.or_eq_true, decide_eq_false_iff_not] at h
  obtain ⟨⟨⟨⟨⟨⟨h1, h2⟩, h3⟩, h4⟩, h5⟩, h6⟩, h7⟩ := h
  exact ⟨h1, h2, h3, h4, h5, h6, h7⟩
/-- a def's text is that of the IR -/
def chkFn (P : Prog) (fn : Fn) (st : Stmt) : Bool := fnScB fn.N fn.ps (defScope st) && chkSs P fn.N (defScope st) fn.body (defBody st)
/-- the parameters are bound -/
structure BndOk (fn : Fn) (st : Stmt) : Prop where
  pos : fn.dfl = [] → ∀ (kV doc pm : Value) (an : Option Addr) (cdv ct : Value) (us : List Value), us.length = fn.ps.length → bindArgs (PySem.W.fnOf fn.dnm fn.qnm (defArgs st) (defBody st) (defScope st) .none kV doc pm an cdv ct) ⟨us, []⟩ = pure (fn.ps.zip us)
  dfl : fn.dfl ≠ [] → ∀ (T : Addr) (kV doc pm : Value) (an : Option Addr) (cdv ct : Value) (us its : List Value), its.length = fn.dfl.length → us.length ≤ fn.ps.length → fn.ps.length ≤ us.length + its.length →
    ∃ k, bindArgs (PySem.W.fnOf fn.dnm fn.qnm (defArgs st) (defBody st) (defScope st) (.ref T) kV doc pm an cdv ct) ⟨us, []⟩ = seqItems? (.ref T) >>= k ∧ k (some its.toArray) = pure (fn.ps.zip (fillG fn.ps.length its us))
  kw : ∀ ks ∈ fn.kws, fn.dfl = [] ∧ ∀ (kV doc pm : Value) (an : Option Addr) (cdv ct : Value) (us ws : List Value), us.length = fn.ps.length - ks.length → ws.length = ks.length → bindArgs (PySem.W.fnOf fn.dnm fn.qnm (defArgs st) (defBody st) (defScope st) .none kV doc pm an cdv ct) ⟨us, ks.zip ws⟩ = pure (fn.ps.zip (kwG fn.ps ks us ws))
theorem dvsD_len (fn : Fn) : ∀ (ds : List D) (j : Nat), (dvsD fn j ds).length = ds.length
  | [], _ => rfl
  | d :: ds, j => by rw [dvsD, List.length_cons, List.length_cons, dvsD_len fn ds]
theorem fnh {P : Prog} {K : PySem.W.Frag} {mg : Str → Option Value} {fn : Fn} {st : Stmt} {a : Addr} {fd : FuncData} (hm : FnAt K mg fn a) (hd : ∀ R H, Reps K R H fn.dfl ((dvsD fn 0 fn.dfl).map (He.Dv.v K))) (F : FunD K fn.dnm fn.qnm (defArgs st) (defBody st) (defScope st) ((dvsD fn 0 fn.dfl).map (He.Dv.v K)) [] a fd) (hc : chkFn P fn st = true) (hb : BndOk fn st) : FnH P K mg fn := by
  simp only [chkFn, Bool.and_eq_true] at hc
  have hlen : ((dvsD fn 0 fn.dfl).map (He.Dv.v K)).length = fn.dfl.length := by rw [List.length_map, dvsD_len]
  obtain ⟨oc, od, dV, kV, doc, pm, an, cdv, ct, osl, rfl, lk, hcd, hD, hK⟩ := F.ex
  rcases hD with ⟨e0, rfl⟩ | ⟨e0, T, o, its, m, rfl, lT, oT, rT⟩
  · have hz : fn.dfl = [] := by
      rw [e0] at hlen
      exact List.eq_nil_of_length_eq_zero hlen.symm
    refine ⟨a, _, _, _, _, _, [], hm, F, fnScB_ok hc.1, hc.2, hd, by rw [e0]; exact .nil, fun s us kin hl => ?_, fun ks hk m s us ws h1 h2 h3 => ?_⟩
    · have e1 : fillG fn.ps.length [] us = us := by unfold fillG; simp
      rw [e1] at hl ⊢
      exact .of_eq (hb.pos hz kV doc pm an cdv ct us hl)
    · have h4 : ks.length = fn.ps.length - m := by
        unfold bindOk at h3
        simp only [Bool.and_eq_true] at h3
        exact Nat.eq_of_beq_eq_true h3.2
      have h5 : m ≤ fn.ps.length := by
        unfold bindOk at h3
        simp only [Bool.and_eq_true] at h3
        exact Nat.le_of_ble_eq_true h3.1.1.1
      exact .of_eq ((hb.kw ks hk).2 kV doc pm an cdv ct us ws (by omega) h2)
  · have hne : fn.dfl ≠ [] := by
      intro z
      have z0 : fn.dfl.length = 0 := by rw [z]; rfl
      exact e0 (List.eq_nil_of_length_eq_zero (hlen.trans z0))
    have l1 : its.length = fn.dfl.length := by rw [← rT.length]; exact hlen
    refine ⟨a, _, _, _, _, _, its, hm, F, fnScB_ok hc.1, hc.2, hd, rT, fun s us kin hl => ?_, fun ks hk => absurd (hb.kw ks hk).1 hne⟩
    have hl2 : us.length + (its.length - (us.length + its.length - fn.ps.length)) = fn.ps.length := by
      unfold fillG at hl
      rw [List.length_append, List.length_drop] at hl
      exact hl
    obtain ⟨k, e1, e2⟩ := hb.dfl hne T kV doc pm an cdv ct us its l1 (by omega) (by omega)
    refine BindsTo.of_looks fun M => ?_
    rw [e1]
    exact looks_items kin lT oT (.of_pure e2)
/-- all of a program's defs -/
theorem all_fnh {P : Prog} {K : PySem.W.Frag} {h : Heap} {mg : Str → Option Value} {sts : List Stmt} (X : K.In h) (G : h.Ns mainGlobals mg)
    (hl : P.fns.length = sts.length) (hw : P.cls.all (wfC P) = true) (hc : ∀ (i : Nat) fn st, P.fns[i]? = some fn → sts[i]? = some st → chkFn P fn st = true) (hb : ∀ (i : Nat) fn st, P.fns[i]? = some fn → sts[i]? = some st → BndOk fn st)
    (c : obsP P sts K = valP P sts) :
    GOk P K mg ∧ (∀ (f : Nat) fn, P.fns[f]? = some fn → FnH P K mg fn) ∧ ∀ (f : Nat) fn st, P.fns[f]? = some fn → sts[f]? = some st → FnAt K mg fn (adrOf K fn) ∧ ∃ fd, FunD K fn.dnm fn.qnm (defArgs st) (defBody st) (defScope st) ((dvsD fn 0 fn.dfl).map (He.Dv.v K)) [] (adrOf K fn) fd := by
  have c0 : ((bltNames.all fun x => (He.Fa.free x).ok K) && ((P.cns.all fun q => cnB K q.1 q.2) && ((P.fns.all fun f => fnB K f) && ((P.cls.all fun c => clB P K c) && ((sts.zip P.fns).all fun q => (defOf q.1 q.2).ok K))))) = true := congrArg (fun z : AlP => z.1) c
  have c9 : ((sts.zip P.fns).map fun q => He5.fnA K (adrOf K q.2)) = (sts.zip P.fns).map fun q => (defOf q.1 q.2).val := congrArg (fun z : AlP => z.2) c
  obtain ⟨c1, c0⟩ := He.ba c0
  obtain ⟨c2, c0⟩ := He.ba c0
  obtain ⟨c3, c0⟩ := He.ba c0
  obtain ⟨c4, c5⟩ := He.ba c0
  have fd1 : ∀ (f : Nat) fn st, P.fns[f]? = some fn → sts[f]? = some st → FnAt K mg fn (adrOf K fn) ∧ (∀ R H, Reps K R H fn.dfl ((dvsD fn 0 fn.dfl).map (He.Dv.v K))) ∧ ∃ fd, FunD K fn.dnm fn.qnm (defArgs st) (defBody st) (defScope st) ((dvsD fn 0 fn.dfl).map (He.Dv.v K)) [] (adrOf K fn) fd := by
    intro f fn st e hst
    obtain ⟨g1, g2⟩ := fnB_ok X G (List.all_eq_true.mp c3 fn (List.mem_of_getElem? e))
    have hz : (sts.zip P.fns)[f]? = some (st, fn) := (List.getElem?_zip_eq_some (z := (st, fn))).mpr ⟨hst, e⟩
    have e9 : (((sts.zip P.fns).map fun q => He5.fnA K (adrOf K q.2)))[f]? = ((sts.zip P.fns).map fun q => (defOf q.1 q.2).val)[f]? := by rw [c9]
    rw [List.getElem?_map, List.getElem?_map, hz] at e9
    have hok := List.all_eq_true.mp c5 (st, fn) (List.mem_of_getElem? hz)
    obtain ⟨fd, F⟩ := He5.DefA.funD (d := defOf st fn) (Option.some.inj e9) hok
    exact ⟨g1, g2, fd, F⟩
  refine ⟨⟨fun x hx => He.free_ok X G (List.all_eq_true.mp c1 x hx), fun j x d e => cnB_ok X G (List.all_eq_true.mp c2 _ (List.mem_of_getElem? e)), fun cd hcd => clB_ok X G (List.all_eq_true.mp hw cd hcd) (List.all_eq_true.mp c4 cd hcd)⟩, fun f fn e => ?_, fun f fn st e hst => ⟨(fd1 f fn st e hst).1, (fd1 f fn st e hst).2.2⟩⟩
  have hf : f < sts.length := by
    rw [← hl]
    exact (List.getElem?_eq_some_iff.mp e).1
  obtain ⟨st, hst⟩ : ∃ st, sts[f]? = some st := ⟨_, List.getElem?_eq_getElem hf⟩
  obtain ⟨g1, g2, fd, F⟩ := fd1 f fn st e hst
  exact fnh g1 g2 F (hc f fn st e hst) (hb f fn st e hst)
/-- the script lies in the heap -/
theorem sp_script {K : PySem.W.Frag} {P : Prog} {n f : Nat} {H : Hp} {a : Addr} {ns : List Int} (hO : Only H) (hS : SqL K H a (ns.map V.int)) (hlaw : ∃ T', callN P n f [.ext false (ns.map D.int)] [] = .ok (.bl true) T') :
    spF K 1 (callN P n f) [.ref a] H (fun v _ => v = .bl true) fun _ _ _ => False := by
  obtain ⟨T', e⟩ := hlaw
  have ri : ∀ (R : Rho) (H : Hp) (l : List Int), Reps K R H (l.map D.int) (l.map V.int) := by
    intro R H l
    induction l with
    | nil => rfl
    | cons i l ih => exact ⟨_, _, rfl, rfl, ih⟩
  by_cases ha : H a = none
  · have hw : SqL K (fun _ => none) a (ns.map V.int) := by
      rcases hS with (q | ⟨o, q⟩) | q
      · rw [ha] at q; cases q
      · rw [ha] at q; cases q
      · exact .inr q
    refine ⟨rfl, ⟨[], fun _ => False, fun _ => False⟩, [], _, _, T', ⟨rfl, ?_, ?_, ?_, ?_⟩, ?_, e, fun R' H' v l s r => r⟩
    · intro n a c h; cases n <;> cases h
    · intro n m a c c' h; cases n <;> cases h
    · intro a h; cases h
    · intro a h; cases h
    · exact ⟨_, _, rfl, ⟨_, _, rfl, ⟨.inr hw, hS⟩, ri _ _ _⟩, rfl⟩
  · refine ⟨rfl, ⟨[], fun b => b = a, fun _ => False⟩, [], _, _, T', ⟨rfl, ?_, ?_, ?_, ?_⟩, ?_, e, fun R' H' v l s r => r⟩
    · intro n a c h; cases n <;> cases h
    · intro n m a c c' h; cases n <;> cases h
    · rintro b rfl
      cases q : H b with
      | none => exact absurd q ha
      | some o => exact ⟨o, rfl⟩
    · intro a h; cases h
    · exact ⟨_, _, rfl, ⟨_, _, rfl, ⟨.inl rfl, hS⟩, ri _ _ _⟩, rfl⟩
end Pz

set_option Elab.async false
set_option linter.all false
set_option maxRecDepth 100000
namespace K03
open PySem Pz
def f_is_number : Fn := { name := "is_number", ps := ["thing"], N := ["thing"], kws := [], body := [.ret (.and (.isi (.var 0) [.int]) (.not (.isi (.var 0) [.bool])))] }
def f_is_name : Fn := { name := "is_name", ps := ["thing"], N := ["thing", "sign"], kws := [["thing"]], body := [.ifs (.or (.not (.isO (.var 0) [.blt .str])) (.not (.cmp2 .lt .le (.int 0) (.blt .len [.var 0]) (.glo 1)))) [.ret (.bl false)] [],
    .ret (.blt .all [.comp [1] (.name 1) (.seq (.var 0)) none (.cmp .isin (.var 1) (.glo 0))])] }
def f_tupled : Fn := { name := "tupled", ps := ["thing"], N := ["thing", "part"], kws := [], body := [.ret (.ite (.isi (.var 0) [.list, .tuple]) (.blt .tuple [.comp [1] (.name 1) (.seq (.var 0)) none (.call 2 [.var 1])]) (.var 0))] }
def f_added : Fn := { name := "added", ps := ["rows"], N := ["rows", "found", "values", "amount"], kws := [], body := [.asg (.name 1) (.dict0 true),
    .loop (.tup [.name 2, .name 3]) (.seq (.var 0)) [.asgIdx (.var 1) (.var 2) (.bin .add (.mth .get (.var 1) [.var 2, .int 0]) (.var 3))],
    .ret (.blt .tuple [.comp [2] (.name 2) (.seq (.sortedK (.var 1))) (some (.cmp .gt (.idx (.var 1) (.var 2)) (.int 0))) (.tup [.var 2, .idx (.var 1) (.var 2)])])] }
def f_is_row : Fn := { name := "is_row", ps := ["many", "thing"], N := ["many", "thing", "own"], kws := [], body := [.ifs (.or (.not (.isi (.var 1) [.tuple])) (.or (.cmp .ne (.blt .len [.var 1]) (.glo 2)) (.or (.not (.isi (.idx (.var 1) (.int 0)) [.tuple])) (.cmp .ne (.blt .len [.idx (.var 1) (.int 0)]) (.var 0))))) [.ret (.bl false)] [],
    .ret (.and (.blt .all [.comp [2] (.name 2) (.seq (.idx (.var 1) (.int 0))) none (.and (.call 0 [.var 2]) (.cmp .ge (.var 2) (.int 0)))]) (.and (.call 0 [.idx (.var 1) (.int 1)]) (.cmp .gt (.idx (.var 1) (.int 1)) (.int 0))))] }
def f_is_rows : Fn := { name := "is_rows", ps := ["labels", "thing"], N := ["labels", "thing", "one", "other", "own"], kws := [["thing", "labels"]], body := [.ifs (.or (.not (.isO (.var 1) [.blt .tuple])) (.not (.blt .all [.comp [4] (.name 4) (.seq (.var 1)) none (.call 4 [.blt .len [.var 0], .var 4])]))) [.ret (.bl false)] [],
    .ret (.blt .all [.comp [2, 3] (.tup [.name 2, .name 3]) (.zip (.var 1) (.slc (.var 1) (some (.int 1)) none)) none (.cmp .lt (.idx (.var 2) (.int 0)) (.idx (.var 3) (.int 0)))])] }
def f_Table___init__ : Fn := { name := "__init__", ps := ["self", "labels", "rows"], N := ["self", "labels", "rows", "values", "amount"], kws := [], own := .meth "Table", qn := some "Table.__init__", dfl := [.ext true [], .ext true []], body := [.asgF (.var 0) "own_labels" (.labT (.var 1)),
    .loop (.tup [.name 3, .name 4]) (.seq (.var 2)) [.ifs (.or (.cmp .ne (.blt .len [.var 3]) (.blt .len [.att (.var 0) "own_labels"])) (.cmp .lt (.minT (.tupS [true, false] [.var 3, .var 4])) (.int 0))) [.bad] []],
    .asgF (.var 0) "own_rows" (.call 3 [.call 2 [.var 2]])] }
def f_Table_rows : Fn := { name := "rows", ps := ["self"], N := ["self"], kws := [], own := .prop "Table", qn := some "Table.rows", body := [.ret (.att (.var 0) "own_rows")] }
def f__law_box : Fn := { name := "_law_box", ps := ["_law_script", "_law_k"], N := ["_law_script", "_law_k", "_law_cell"], kws := [], body := [.asg (.name 2) (.ite (.cmp .lt (.var 1) (.blt .len [.var 0])) (.idx (.var 0) (.var 1)) (.int 0)),
    .ret (.mut (.lst [.bin .mul (.blt .abs [.var 2]) (.blt .int [.cmp .ge (.blt .abs [.var 2]) (.bin .pow (.int 10) (.int 18))]), .bin .add (.bin .add (.bin .mod (.blt .int [.var 2]) (.int 2305843009213693951)) (.bin .mul (.int 39373) (.var 1))) (.int 611003), .int 0]))] }
def f__law_take : Fn := { name := "_law_take", ps := ["_law_urn", "_law_low_so"], N := ["_law_urn", "_law_low_so", "_law_once", "_law_far", "_law_twice", "_law_drawn"], kws := [], body := [.ifs (.cmp .gt (.idx (.var 0) (.int 0)) (.int 0)) [.asg (.name 5) (.bin .mod (.blt .int [.idx (.var 0) (.int 0)]) (.var 1)),
    .asgIdx (.var 0) (.int 0) (.bin .fdiv (.idx (.var 0) (.int 0)) (.var 1)),
    .ret (.var 5)] [],
    .asgIdx (.var 0) (.int 2) (.bin .add (.idx (.var 0) (.int 2)) (.int 1)),
    .asg (.name 2) (.bin .mod (.blt .int [.bin .mul (.bin .add (.idx (.var 0) (.int 1)) (.bin .mul (.int 48271) (.idx (.var 0) (.int 2)))) (.bin .add (.int 39373) (.idx (.var 0) (.int 2)))]) (.int 2147483647)),
    .asg (.name 3) (.bin .add (.bin .mod (.blt .int [.var 2]) (.int 40009)) (.int 7)),
    .asg (.name 4) (.bin .mod (.blt .int [.bin .mul (.bin .add (.bin .add (.var 2) (.idx (.var 0) (.int 2))) (.bin .fdiv (.idx (.var 0) (.int 1)) (.int 1000003))) (.var 3)]) (.int 2147483629)),
    .ret (.bin .mod (.blt .int [.bin .fdiv (.bin .mod (.blt .int [.bin .add (.bin .mul (.var 4) (.int 48271)) (.var 2)]) (.int 2147483587)) (.int 64)]) (.var 1))] }
def f__law_cells : Fn := { name := "_law_cells", ps := ["_law_script", "_law_top"], N := ["_law_script", "_law_top", "_law_cells_here", "_law_k", "_law_cell", "_law_at_so"], kws := [], body := [.asg (.name 2) (.orT (.mut (.blt .list [.slc (.var 0) none (some (.var 1))])) (.mut (.lst [.int 0]))),
    .loop (.tup [.name 3, .name 4]) (.enum (.slc (.var 0) (some (.var 1)) (some (.int 63)))) [.asg (.name 5) (.bin .mod (.blt .int [.var 3]) (.var 1)),
    .asgIdx (.var 2) (.var 5) (.bin .add (.idx (.var 2) (.var 5)) (.bin .mul (.var 4) (.bin .add (.var 3) (.int 2))))],
    .ret (.frz (.var 2))] }
def f__law_of : Fn := { name := "_law_of", ps := ["_law_urn", "_law_some_so"], N := ["_law_urn", "_law_some_so"], kws := [], body := [.ret (.idx (.var 1) (.call 9 [.var 0, .blt .len [.var 1]]))] }
def f__law_same : Fn := { name := "_law_same", ps := ["_law_got", "_law_goal"], N := ["_law_got", "_law_goal", "_law_mine_so", "_law_own"], kws := [], body := [.ifs (.isi (.var 1) [.list, .tuple]) [.ifs (.or (.cmp .ne (.isi (.var 0) [.list]) (.isi (.var 1) [.list])) (.cmp .ne (.isi (.var 0) [.tuple]) (.isi (.var 1) [.tuple]))) [.ret (.bl false)] [],
    .ret (.and (.cmp .eq (.blt .len [.var 0]) (.blt .len [.var 1])) (.blt .all [.comp [2, 3] (.tup [.name 2, .name 3]) (.zip (.var 0) (.var 1)) none (.call 12 [.var 2, .var 3])]))] [],
    .ifs (.or (.cmp .is (.var 1) (.non)) (.isi (.var 1) [.bool, .str])) [.ret (.and (.cmp .eq (.var 0) (.var 1)) (.and (.cmp .eq (.isi (.var 0) [.bool]) (.isi (.var 1) [.bool])) (.cmp .eq (.cmp .is (.var 0) (.non)) (.cmp .is (.var 1) (.non)))))] [],
    .ret (.and (.isi (.var 0) [.int]) (.and (.not (.isi (.var 0) [.bool])) (.cmp .eq (.var 0) (.var 1))))] }
def f__law_tags : Fn := { name := "_law_tags", ps := ["_law_urn", "_law_many_so"], N := ["_law_urn", "_law_many_so", "_law_stem", "_law_k", "_law_signs", "_law_first_so", "_law_by_so", "_law_at_so", "_law_found", "_law_sign", "_law_turn"], kws := [], body := [.asg (.tup [.name 4, .name 2]) (.tup [.str "abcdefghijklmnopqrstuvwxyz", .call 9 [.var 0, .int 3]]),
    .par2 5 6 (.call 9 [.var 0, .int 26]) (.call 11 [.var 0, .lst [.int 1, .int 3, .int 7, .int 11, .int 25]]),
    .asg (.name 2) (.mth .join (.str "") [.comp [10] (.name 10) (.rng1 (.ite (.cmp .gt (.var 2) (.int 0)) (.call 9 [.var 0, .int 8]) (.int 0))) none (.idx (.var 4) (.call 9 [.var 0, .int 26]))]),
    .par2 7 8 (.call 9 [.var 0, .bin .add (.blt .len [.var 2]) (.int 1)]) (.mut (.lst [])),
    .loop (.name 3) (.rng1 (.var 1)) [.asg (.name 9) (.idx (.var 4) (.bin .mod (.blt .int [.bin .add (.var 5) (.bin .mul (.var 6) (.var 3))]) (.int 26))),
    .expr (.mth .append (.var 8) [.bin .add (.bin .add (.slc (.var 2) none (some (.var 7))) (.var 9)) (.slc (.var 2) (some (.var 7)) none)])],
    .ret (.blt .sorted [.var 8])] }
def f__law_sum : Fn := { name := "_law_sum", ps := ["_law_pairs_so"], N := ["_law_pairs_so", "_law_tally_so", "_law_values_so", "_law_much", "_law_own"], kws := [], body := [.asg (.name 1) (.dict0 true),
    .loop (.tup [.name 2, .name 3]) (.seq (.var 0)) [.asgIdx (.var 1) (.var 2) (.bin .add (.mth .get (.var 1) [.var 2, .int 0]) (.var 3))],
    .ret (.blt .tuple [.comp [4] (.name 4) (.seq (.sortedK (.var 1))) (some (.cmp .gt (.idx (.var 1) (.var 4)) (.int 0))) (.tup [.var 4, .idx (.var 1) (.var 4)])])] }
def f__law_pool : Fn := { name := "_law_pool", ps := ["_law_urn", "_law_wide_so", "_law_most", "_law_high"], N := ["_law_urn", "_law_wide_so", "_law_most", "_law_high", "_law_pool_here", "_law_turn", "_law_k"], kws := [], body := [.asg (.name 4) (.mut (.lst [])),
    .loop (.name 5) (.rng1 (.call 9 [.var 0, .bin .add (.var 2) (.int 1)])) [.expr (.mth .append (.var 4) [.tup [.blt .tuple [.comp [6] (.name 6) (.rng1 (.var 1)) none (.call 9 [.var 0, .var 3])], .call 9 [.var 0, .int 10]]])],
    .ret (.bin .add (.var 4) (.slc (.var 4) none (some (.call 9 [.var 0, .int 3]))))] }
def f__law_by_hand_right : Fn := { name := "_law_by_hand_right", ps := [], N := ["_law_words", "_law_got", "_law_goal", "_law_fine", "_law_bad", "_law_odd", "_law_host", "_law_some_so", "_law_own"], kws := [], body := [.asg (.name 0) (.lst [.str "a", .str "abcdefgh", .str "zz", .str "", .str "abcdefghi", .str "A", .str "a b", .str "1", .str "a1", .str "a\n", .str "-", .non, .int 7, .bl true, .labS [false] [.str "a"]]),
    .asg (.name 0) (.bin .add (.var 0) (.lst [.lst [.str "a"]])),
    .asg (.name 1) (.bin .add (.comp [8] (.name 8) (.seq (.var 0)) none (.call 1 [.var 8])) (.lst [.callK 1 [] ["thing"] [.str "host"]])),
    .asg (.name 2) (.bin .add (.bin .add (.bin .mul (.lst [.bl true]) (.int 3)) (.bin .mul (.lst [.bl false]) (.int 13))) (.lst [.bl true])),
    .asg (.name 3) (.lst [.tup [], .tup [.tup [.tup [.int 0], .int 1]], .tup [.tup [.tup [.int 0], .int 1], .tup [.tup [.int 2], .int 1]], .tup [.tup [.tup [.int 0], .bin .pow (.int 10) (.int 41)], .tup [.tup [.bin .pow (.int 10) (.int 41)], .int 1]]]),
    .asg (.name 4) (.lst [.tup [.tup [.tup [.int 2], .int 1], .tup [.tup [.int 0], .int 1]], .tup [.tup [.tup [.int 0], .int 0]], .tup [.tup [.tup [.int 0], .neg (.int 1)]], .tup [.tup [.tup [.neg (.int 1)], .int 1]], .tup [.tup [.tup [.int 0], .int 1], .tup [.tup [.int 0], .int 1]]]),
    .asg (.name 4) (.bin .add (.var 4) (.lst [.tup [.tup [.tup [.int 0, .int 0], .int 1]]])),
    .asg (.name 4) (.bin .add (.var 4) (.lst [.tup [.tup [.tup [], .int 1]], .lst [.tup [.tup [.int 0], .int 1]], .tup [.lst [.tup [.int 0], .int 1]], .tup [.tup [.lst [.int 0], .int 1]], .tup [.tup [.tup [.int 0], .int 1, .int 1]], .tup [.tup [.tup [.int 0]]], .tup [.tup [.int 0, .int 1]]])),
    .asg (.name 4) (.bin .add (.var 4) (.lst [.tup [.tup [.int 0], .int 1]])),
    .asg (.name 4) (.bin .add (.var 4) (.lst [.tup [.tup [.tup [.bl true], .int 1]], .tup [.tup [.tup [.int 0], .bl true]], .tup [.tup [.tup [.int 0], .str "1"]], .tup [.tup [.tup [.str "0"], .int 1]], .tup [.tup [.tup [.non], .int 1]], .tup [.tup [.tup [.int 0], .non]]])),
    .asg (.name 4) (.bin .add (.var 4) (.lst [.non, .int 0, .str "", .str "a", .bl true, .tup [.non], .tup [.tup []], .tup [.tup [.tup [.int 0], .int 1], .non], .tup [.tup [.tup [.tup [.int 0]], .int 1]], .tup [.tup [.tup [.int 0], .tup [.int 1]]], .lst []])),
    .asg (.name 1) (.bin .add (.var 1) (.comp [8] (.name 8) (.seq (.bin .add (.var 3) (.var 4))) none (.call 5 [.labS [false] [.str "a"], .var 8]))),
    .asg (.name 2) (.bin .add (.bin .add (.var 2) (.bin .mul (.lst [.bl true]) (.blt .len [.var 3]))) (.bin .mul (.lst [.bl false]) (.blt .len [.var 4]))),
    .asg (.name 1) (.bin .add (.var 1) (.comp [8] (.name 8) (.seq (.tup [.tup [], .tup [.tup [.tup [], .int 1]], .tup [.tup [.tup [], .int 0]], .tup [.tup [.tup [], .int 1], .tup [.tup [], .int 2]], .tup [.tup [.tup [.int 0], .int 1]]])) none (.call 5 [.tup [], .var 8]))),
    .asg (.name 2) (.bin .add (.var 2) (.lst [.bl true, .bl true, .bl false, .bl false, .bl false])),
    .asg (.name 5) (.lst [.tup [.tup [.tup [.int 1, .neg (.int 1)], .int 1]], .tup [.tup [.tup [.int 0, .neg (.int 1)], .int 1]], .tup [.tup [.tup [.int 0, .bl true], .int 1]], .tup [.tup [.tup [.bl true, .int 0], .int 1]], .tup [.tup [.tup [.int 0, .str "1"], .int 1]]]),
    .asg (.name 5) (.bin .add (.var 5) (.lst [.tup [.tup [.tup [.int 0, .tup [.int 1]], .int 1]], .tup [.tup [.tup [.int 0, .int 0], .int 1], .tup [.tup [.int 0, .bl true], .int 1]], .tup [.tup [.tup [.int 0, .int 2], .int 1], .tup [.tup [.int 0, .int 1], .int 1]]])),
    .asg (.name 6) (.make true "Table" [.labS [false] [.str "a"], .tup [.tup [.tup [.int 0], .int 1]]]),
    .asg (.name 1) (.bin .add (.bin .add (.var 1) (.comp [8] (.name 8) (.seq (.var 5)) none (.call 5 [.tup [.str "a", .str "b"], .var 8]))) (.lst [.call 5 [.labS [false] [.str "a"], .var 6], .call 5 [.tup [], .make true "Table" []]])),
    .asg (.name 1) (.bin .add (.var 1) (.lst [.call 1 [.var 6], .call 5 [.labS [false] [.str "a"], .tup [.tup [.tup [.bl false], .int 1]]]])),
    .asg (.name 2) (.bin .add (.var 2) (.bin .mul (.lst [.bl false]) (.bin .add (.blt .len [.var 5]) (.int 4)))),
    .asg (.name 7) (.lst [.tup [.tup [.tup [.int 0, .int 1], .int 1], .tup [.tup [.int 1, .int 0], .int 1]], .tup [.tup [.tup [.int 1, .int 0], .int 1], .tup [.tup [.int 0, .int 1], .int 1]], .tup [.tup [.tup [.int 0], .int 1]]]),
    .asg (.name 1) (.bin .add (.var 1) (.comp [8] (.name 8) (.seq (.var 7)) none (.call 5 [.tup [.str "a", .str "b"], .var 8]))),
    .ret (.call 12 [.bin .add (.var 1) (.lst [.callK 5 [] ["thing", "labels"] [.tup [.tup [.tup [.int 0, .int 0], .int 2]], .lst [.str "a", .str "b"]]]), .bin .add (.var 2) (.lst [.bl true, .bl false, .bl false, .bl true])])] }
def f__law_right : Fn := { name := "_law_right", ps := ["_law_urn"], N := ["_law_urn", "_law_turn", "_law_tags_here", "_law_rows_so", "_law_more", "_law_k", "_law_bits", "_law_bent", "_law_got", "_law_values_so", "_law_much", "_law_own"], kws := [], body := [.ifs (.not (.call 16 [])) [.ret (.bl false)] [],
    .loop (.name 1) (.rng1 (.int 10)) [.asg (.name 2) (.call 13 [.var 0, .bin .add (.int 1) (.call 9 [.var 0, .int 3])]),
    .asg (.name 3) (.att (.make true "Table" [.labT (.var 2), .call 15 [.var 0, .blt .len [.var 2], .int 6, .int 3]]) "rows"),
    .asg (.name 4) (.call 14 [.bin .add (.blt .list [.var 3]) (.lst [.tup [.bin .mul (.tup [.int 1]) (.blt .len [.var 2]), .int 3]])]),
    .asg (.name 5) (.call 9 [.var 0, .blt .len [.var 4]]),
    .asg (.tup [.name 9, .name 10]) (.idx (.var 4) (.var 5)),
    .asg (.name 6) (.lst [.tup [.var 9, .int 0], .tup [.var 9, .neg (.var 10)], .tup [.bin .add (.var 9) (.tup [.int 0]), .var 10], .tup [.slc (.var 9) (some (.int 1)) none, .var 10]]),
    .asg (.name 6) (.bin .add (.var 6) (.lst [.lst [.var 9, .var 10]])),
    .asg (.name 6) (.bin .add (.var 6) (.lst [.tup [.blt .list [.var 9], .var 10], .tup [.var 9, .bl true], .tup [.var 9, .blt .str [.var 10]]])),
    .asg (.name 6) (.bin .add (.var 6) (.lst [.tup [.bin .add (.slc (.var 9) none (some (.neg (.int 1)))) (.tup [.non]), .var 10]])),
    .asg (.name 6) (.bin .add (.var 6) (.lst [.tup [.bin .add (.tup [.neg (.int 1)]) (.slc (.var 9) (some (.int 1)) none), .var 10], .tup [.bin .add (.slc (.var 9) none (some (.neg (.int 1)))) (.tup [.neg (.int 1)]), .var 10], .tup [.var 9, .var 10, .var 10], .non])),
    .asg (.name 7) (.bin .add (.comp [11] (.name 11) (.seq (.var 6)) none (.bin .add (.bin .add (.slc (.var 4) none (some (.var 5))) (.tup [.var 11])) (.slc (.var 4) (some (.bin .add (.var 5) (.int 1))) none))) (.lst [.bin .add (.var 4) (.tup [.idx (.var 4) (.var 5)]), .blt .list [.var 4], .idx (.var 4) (.var 5)])),
    .asg (.name 7) (.bin .add (.var 7) (.bin .mul (.lst [.rev (.var 4)]) (.blt .int [.cmp .gt (.blt .len [.var 4]) (.int 1)]))),
    .asg (.name 8) (.bin .add (.lst [.call 5 [.var 2, .var 3], .call 5 [.labT (.var 2), .var 4]]) (.comp [11] (.name 11) (.seq (.var 7)) none (.call 5 [.var 2, .var 11]))),
    .ifs (.not (.call 12 [.var 8, .bin .add (.lst [.bl true, .bl true]) (.bin .mul (.lst [.bl false]) (.blt .len [.var 7]))])) [.ret (.bl false)] []],
    .ret (.bl true)] }
def f_law : Fn := { name := "law", ps := ["_law_script"], N := ["_law_script", "_law_cells_here", "_law_k"], kws := [], body := [.asg (.name 1) (.call 10 [.var 0, .int 3]),
    .ret (.blt .all [.comp [2] (.name 2) (.rng1 (.blt .len [.var 1])) none (.call 17 [.call 8 [.var 1, .var 2]])])] }
def prog : Prog := { fns := [f_is_number, f_is_name, f_tupled, f_added, f_is_row, f_is_rows, f_Table___init__, f_Table_rows, f__law_box, f__law_take, f__law_cells, f__law_of, f__law_same, f__law_tags, f__law_sum, f__law_pool, f__law_by_hand_right, f__law_right, f_law], cns := [("LETTERS", .str "abcdefghijklmnopqrstuvwxyz"), ("LONGEST", .int 8), ("PAIR", .int 2)], cls := [{ name := "Table", flds := ["own_labels", "own_rows"], prps := [("rows", 7)], mths := [("__init__", 6)], stas := [] }] }
/-! places of the defs in the top (and in their class) -/
def tops : List (Nat × Option Nat) := [(4, none), (5, none), (6, none), (17, none), (18, none), (19, none), (23, some 0), (23, some 3), (25, none), (26, none), (27, none), (28, none), (29, none), (30, none), (31, none), (32, none), (33, none), (34, none), (35, none)]
abbrev i_is_number : Nat := 0
abbrev i_is_name : Nat := 1
abbrev i_tupled : Nat := 2
abbrev i_added : Nat := 3
abbrev i_is_row : Nat := 4
abbrev i_is_rows : Nat := 5
abbrev i_Table___init__ : Nat := 6
abbrev i_Table_rows : Nat := 7
abbrev i__law_box : Nat := 8
abbrev i__law_take : Nat := 9
abbrev i__law_cells : Nat := 10
abbrev i__law_of : Nat := 11
abbrev i__law_same : Nat := 12
abbrev i__law_tags : Nat := 13
abbrev i__law_sum : Nat := 14
abbrev i__law_pool : Nat := 15
abbrev i__law_by_hand_right : Nat := 16
abbrev i__law_right : Nat := 17
abbrev i_law : Nat := 18
end K03

set_option Elab.async false
set_option linter.all false
set_option maxRecDepth 1000000
set_option maxHeartbeats 0
namespace K03
open PySem PySem.Spec PyProof.Rows Pz L2
def top (i : Nat) : Stmt := PySem.Challenge.pw_peaksums_k03_things_that_are_rows_and_na.main.body.getD i (.Pass ⟨0, 0, 0, 0⟩)
def bodyOf : Stmt → List Stmt
  | .ClassDef _ _ _ b _ _ _ _ _ _ _ => b
  | _ => []
def memb (i j : Nat) : Stmt := (bodyOf (top i)).getD j (.Pass ⟨0, 0, 0, 0⟩)
def sts : List Stmt := tops.map fun q => match q.2 with
  | none => top q.1
  | some j => memb q.1 j
theorem chk_is_number : chkFn prog f_is_number (top 4) = true := by decide +kernel
theorem chk_is_name : chkFn prog f_is_name (top 5) = true := by decide +kernel
theorem chk_tupled : chkFn prog f_tupled (top 6) = true := by decide +kernel
theorem chk_added : chkFn prog f_added (top 17) = true := by decide +kernel
theorem chk_is_row : chkFn prog f_is_row (top 18) = true := by decide +kernel
theorem chk_is_rows : chkFn prog f_is_rows (top 19) = true := by decide +kernel
theorem chk_Table___init__ : chkFn prog f_Table___init__ (memb 23 0) = true := by decide +kernel
theorem chk_Table_rows : chkFn prog f_Table_rows (memb 23 3) = true := by decide +kernel
theorem chk__law_box : chkFn prog f__law_box (top 25) = true := by decide +kernel
theorem chk__law_take : chkFn prog f__law_take (top 26) = true := by decide +kernel
theorem chk__law_cells : chkFn prog f__law_cells (top 27) = true := by decide +kernel
theorem chk__law_of : chkFn prog f__law_of (top 28) = true := by decide +kernel
theorem chk__law_same : chkFn prog f__law_same (top 29) = true := by decide +kernel
theorem chk__law_tags : chkFn prog f__law_tags (top 30) = true := by decide +kernel
theorem chk__law_sum : chkFn prog f__law_sum (top 31) = true := by decide +kernel
theorem chk__law_pool : chkFn prog f__law_pool (top 32) = true := by decide +kernel
theorem chk__law_by_hand_right : chkFn prog f__law_by_hand_right (top 33) = true := by decide +kernel
theorem chk__law_right : chkFn prog f__law_right (top 34) = true := by decide +kernel
theorem chk_law : chkFn prog f_law (top 35) = true := by decide +kernel
theorem bnd_is_number : BndOk f_is_number (top 4) := by
  refine ⟨fun _ _ _ _ _ _ _ us hl => match us, hl with | [_], _ => rfl, fun z => absurd rfl z, fun ks hk => ?_⟩
  cases hk
theorem bnd_is_name : BndOk f_is_name (top 5) := by
  refine ⟨fun _ _ _ _ _ _ _ us hl => match us, hl with | [_], _ => rfl, fun z => absurd rfl z, fun ks hk => ?_⟩
  rcases List.mem_cons.mp hk with rfl | hk
  · exact ⟨rfl, fun _ _ _ _ _ _ us ws hl hw => match us, ws, hl, hw with | [], [_], _, _ => rfl⟩
  cases hk
theorem bnd_tupled : BndOk f_tupled (top 6) := by
  refine ⟨fun _ _ _ _ _ _ _ us hl => match us, hl with | [_], _ => rfl, fun z => absurd rfl z, fun ks hk => ?_⟩
  cases hk
theorem bnd_added : BndOk f_added (top 17) := by
  refine ⟨fun _ _ _ _ _ _ _ us hl => match us, hl with | [_], _ => rfl, fun z => absurd rfl z, fun ks hk => ?_⟩
  cases hk
theorem bnd_is_row : BndOk f_is_row (top 18) := by
  refine ⟨fun _ _ _ _ _ _ _ us hl => match us, hl with | [_, _], _ => rfl, fun z => absurd rfl z, fun ks hk => ?_⟩
  cases hk
theorem bnd_is_rows : BndOk f_is_rows (top 19) := by
  refine ⟨fun _ _ _ _ _ _ _ us hl => match us, hl with | [_, _], _ => rfl, fun z => absurd rfl z, fun ks hk => ?_⟩
  rcases List.mem_cons.mp hk with rfl | hk
  · exact ⟨rfl, fun _ _ _ _ _ _ us ws hl hw => match us, ws, hl, hw with | [], [_, _], _, _ => rfl⟩
  cases hk
theorem bnd_Table___init__ : BndOk f_Table___init__ (memb 23 0) := by
  refine ⟨fun z => absurd z (by decide), fun _ _ _ _ _ _ _ _ us its hi h1 h2 => ?_, fun ks hk => ?_⟩
  · match us, its, hi, h1, h2 with
    | [], [_, _], _, _, h => exact absurd h (by show ¬ (3 ≤ _); simp)
    | [_], [_, _], _, _, _ => exact ⟨_, rfl, rfl⟩
    | [_, _], [_, _], _, _, _ => exact ⟨_, rfl, rfl⟩
    | [_, _, _], [_, _], _, _, _ => exact ⟨_, rfl, rfl⟩
  cases hk
theorem bnd_Table_rows : BndOk f_Table_rows (memb 23 3) := by
  refine ⟨fun _ _ _ _ _ _ _ us hl => match us, hl with | [_], _ => rfl, fun z => absurd rfl z, fun ks hk => ?_⟩
  cases hk
theorem bnd__law_box : BndOk f__law_box (top 25) := by
  refine ⟨fun _ _ _ _ _ _ _ us hl => match us, hl with | [_, _], _ => rfl, fun z => absurd rfl z, fun ks hk => ?_⟩
  cases hk
theorem bnd__law_take : BndOk f__law_take (top 26) := by
  refine ⟨fun _ _ _ _ _ _ _ us hl => match us, hl with | [_, _], _ => rfl, fun z => absurd rfl z, fun ks hk => ?_⟩
  cases hk
theorem bnd__law_cells : BndOk f__law_cells (top 27) := by
  refine ⟨fun _ _ _ _ _ _ _ us hl => match us, hl with | [_, _], _ => rfl, fun z => absurd rfl z, fun ks hk => ?_⟩
  cases hk
theorem bnd__law_of : BndOk f__law_of (top 28) := by
  refine ⟨fun _ _ _ _ _ _ _ us hl => match us, hl with | [_, _], _ => rfl, fun z => absurd rfl z, fun ks hk => ?_⟩
  cases hk
theorem bnd__law_same : BndOk f__law_same (top 29) := by
  refine ⟨fun _ _ _ _ _ _ _ us hl => match us, hl with | [_, _], _ => rfl, fun z => absurd rfl z, fun ks hk => ?_⟩
  cases hk
theorem bnd__law_tags : BndOk f__law_tags (top 30) := by
  refine ⟨fun _ _ _ _ _ _ _ us hl => match us, hl with | [_, _], _ => rfl, fun z => absurd rfl z, fun ks hk => ?_⟩
  cases hk
theorem bnd__law_sum : BndOk f__law_sum (top 31) := by
  refine ⟨fun _ _ _ _ _ _ _ us hl => match us, hl with | [_], _ => rfl, fun z => absurd rfl z, fun ks hk => ?_⟩
  cases hk
theorem bnd__law_pool : BndOk f__law_pool (top 32) := by
  refine ⟨fun _ _ _ _ _ _ _ us hl => match us, hl with | [_, _, _, _], _ => rfl, fun z => absurd rfl z, fun ks hk => ?_⟩
  cases hk
theorem bnd__law_by_hand_right : BndOk f__law_by_hand_right (top 33) := by
  refine ⟨fun _ _ _ _ _ _ _ us hl => match us, hl with | [], _ => rfl, fun z => absurd rfl z, fun ks hk => ?_⟩
  cases hk
theorem bnd__law_right : BndOk f__law_right (top 34) := by
  refine ⟨fun _ _ _ _ _ _ _ us hl => match us, hl with | [_], _ => rfl, fun z => absurd rfl z, fun ks hk => ?_⟩
  cases hk
theorem bnd_law : BndOk f_law (top 35) := by
  refine ⟨fun _ _ _ _ _ _ _ us hl => match us, hl with | [_], _ => rfl, fun z => absurd rfl z, fun ks hk => ?_⟩
  cases hk
theorem chk_all : ∀ (i : Nat) fn st, prog.fns[i]? = some fn → sts[i]? = some st → chkFn prog fn st = true := by
  intro i fn st h1 h2
  match i, h1, h2 with
  | 0, rfl, rfl => exact chk_is_number
  | 1, rfl, rfl => exact chk_is_name
  | 2, rfl, rfl => exact chk_tupled
  | 3, rfl, rfl => exact chk_added
  | 4, rfl, rfl => exact chk_is_row
  | 5, rfl, rfl => exact chk_is_rows
  | 6, rfl, rfl => exact chk_Table___init__
  | 7, rfl, rfl => exact chk_Table_rows
  | 8, rfl, rfl => exact chk__law_box
  | 9, rfl, rfl => exact chk__law_take
  | 10, rfl, rfl => exact chk__law_cells
  | 11, rfl, rfl => exact chk__law_of
  | 12, rfl, rfl => exact chk__law_same
  | 13, rfl, rfl => exact chk__law_tags
  | 14, rfl, rfl => exact chk__law_sum
  | 15, rfl, rfl => exact chk__law_pool
  | 16, rfl, rfl => exact chk__law_by_hand_right
  | 17, rfl, rfl => exact chk__law_right
  | 18, rfl, rfl => exact chk_law
theorem bnd_all : ∀ (i : Nat) fn st, prog.fns[i]? = some fn → sts[i]? = some st → BndOk fn st := by
  intro i fn st h1 h2
  match i, h1, h2 with
  | 0, rfl, rfl => exact bnd_is_number
  | 1, rfl, rfl => exact bnd_is_name
  | 2, rfl, rfl => exact bnd_tupled
  | 3, rfl, rfl => exact bnd_added
  | 4, rfl, rfl => exact bnd_is_row
  | 5, rfl, rfl => exact bnd_is_rows
  | 6, rfl, rfl => exact bnd_Table___init__
  | 7, rfl, rfl => exact bnd_Table_rows
  | 8, rfl, rfl => exact bnd__law_box
  | 9, rfl, rfl => exact bnd__law_take
  | 10, rfl, rfl => exact bnd__law_cells
  | 11, rfl, rfl => exact bnd__law_of
  | 12, rfl, rfl => exact bnd__law_same
  | 13, rfl, rfl => exact bnd__law_tags
  | 14, rfl, rfl => exact bnd__law_sum
  | 15, rfl, rfl => exact bnd__law_pool
  | 16, rfl, rfl => exact bnd__law_by_hand_right
  | 17, rfl, rfl => exact bnd__law_right
  | 18, rfl, rfl => exact bnd_law
theorem wf_all : prog.cls.all (wfC prog) = true := by decide +kernel
end K03

set_option Elab.async false
set_option linter.all false
set_option maxRecDepth 100000
set_option maxHeartbeats 1000000
/-! P1: plain reasoning about the interpreter: calls may be told ahead; loops and comprehensions by plain folds. -/
namespace Pz
open PySem

/-! ### what a call gives may be told ahead -/
def LeM {α : Type} (x y : M α) : Prop := ∀ T a T', x T = .ok a T' → y T = .ok a T'
theorem LeM.refl {α : Type} (x : M α) : LeM x x := fun _ _ _ h => h
theorem LeM.trans {α : Type} {x y z : M α} (h : LeM x y) (k : LeM y z) : LeM x z := fun T a T' e => k T a T' (h T a T' e)
theorem mbind {α β : Type} (x : M α) (f : α → M β) (T : Store) : (x >>= f) T = match x T with
  | .ok a T' => f a T'
  | .bad => .bad := rfl
theorem LeM.bind {α β : Type} {x y : M α} {f g : α → M β} (h : LeM x y) (k : ∀ a, LeM (f a) (g a)) : LeM (x >>= f) (y >>= g) := by
  intro T a T' e
  rw [mbind] at e ⊢
  cases hx : x T with
  | bad => rw [hx] at e; cases e
  | ok b T1 =>
    rw [hx] at e
    rw [h T b T1 hx]
    exact k b T1 a T' e
theorem leComp {g : Guard} {f f' : D → M (Option D)} (h : ∀ x, LeM (f x) (f' x)) : ∀ (xs acc : List D), LeM (compL g f xs acc) (compL g f' xs acc)
  | [], acc => LeM.refl _
  | x :: xs, acc => by
    intro T a T' e
    simp only [compL] at e ⊢
    cases hs : stays g T with
    | false => rw [hs] at e; cases e
    | true =>
      rw [hs] at e
      dsimp only at e ⊢
      cases hx : f x T with
      | bad => rw [hx] at e; cases e
      | ok b T1 =>
        rw [hx] at e
        rw [h x T b T1 hx]
        cases b with
        | none => exact leComp h xs acc T1 a T' e
        | some y =>
          dsimp only at e ⊢
          cases hl : Nat.blt acc.length sizeLine with
          | false => rw [hl] at e; cases e
          | true => rw [hl] at e; exact leComp h xs (y :: acc) T1 a T' e
theorem leDcomp {tk : Bool} {g : Guard} {f f' : D → M (Option (D × D))} (h : ∀ x, LeM (f x) (f' x)) : ∀ (xs : List D) (acc : List (D × D)), LeM (dcompL tk g f xs acc) (dcompL tk g f' xs acc)
  | [], acc => LeM.refl _
  | x :: xs, acc => by
    intro T a T' e
    simp only [dcompL] at e ⊢
    cases hs : stays g T with
    | false => rw [hs] at e; cases e
    | true =>
      rw [hs] at e
      dsimp only at e ⊢
      cases hx : f x T with
      | bad => rw [hx] at e; cases e
      | ok b T1 =>
        rw [hx] at e
        rw [h x T b T1 hx]
        cases b with
        | none => exact leDcomp h xs acc T1 a T' e
        | some y =>
          dsimp only at e ⊢
          cases hl : keyOk y.1 && (isTupD y.1 == tk) && Nat.blt acc.length sizeLine with
          | false => rw [hl] at e; cases e
          | true => rw [hl] at e; exact leDcomp h xs _ T1 a T' e
theorem leFor {g : Guard} {f f' : D → Env → M Fl} (h : ∀ x env, LeM (f x env) (f' x env)) : ∀ (xs : List D) (env : Env), LeM (forL g f xs env) (forL g f' xs env)
  | [], env => LeM.refl _
  | x :: xs, env => by
    intro T a T' e
    simp only [forL] at e ⊢
    cases hs : stays g T with
    | false => rw [hs] at e; cases e
    | true =>
      rw [hs] at e
      dsimp only at e ⊢
      cases hx : f x env T with
      | bad => rw [hx] at e; cases e
      | ok b T1 =>
        rw [hx] at e
        rw [h x env T b T1 hx]
        cases b with
        | nx env' => exact leFor h xs env' T1 a T' e
        | ct env' => exact leFor h xs env' T1 a T' e
        | bk env' => exact e
        | rt d => exact e
theorem leWhile {c c' : Env → M Bool} {f f' : Env → M Fl} (hc : ∀ env, LeM (c env) (c' env)) (h : ∀ env, LeM (f env) (f' env)) : ∀ (n : Nat) (env : Env), LeM (whileL c f n env) (whileL c' f' n env)
  | 0, env => LeM.refl _
  | n + 1, env => by
    intro T a T' e
    simp only [whileL] at e ⊢
    cases hx : c env T with
    | bad => rw [hx] at e; cases e
    | ok b T1 =>
      rw [hx] at e
      rw [hc env T b T1 hx]
      cases b with
      | false => exact e
      | true =>
        dsimp only at e ⊢
        cases hy : f env T1 with
        | bad => rw [hy] at e; cases e
        | ok b2 T2 =>
          rw [hy] at e
          rw [h env T1 b2 T2 hy]
          cases b2 with
          | nx env' => exact leWhile hc h n env' T2 a T' e
          | ct env' => exact leWhile hc h n env' T2 a T' e
          | bk env' => exact e
          | rt d => exact e
theorem leComp2 {g : Guard} {f f' : D → List D → M (List D)} (h : ∀ x acc, LeM (f x acc) (f' x acc)) : ∀ (xs acc : List D), LeM (compL2 g f xs acc) (compL2 g f' xs acc)
  | [], acc => LeM.refl _
  | x :: xs, acc => by
    intro T a T' e
    simp only [compL2] at e ⊢
    cases hs : stays g T with
    | false => rw [hs] at e; cases e
    | true =>
      rw [hs] at e
      dsimp only at e ⊢
      cases hx : f x acc T with
      | bad => rw [hx] at e; cases e
      | ok b T1 =>
        rw [hx] at e
        rw [h x acc T b T1 hx]
        exact leComp2 h xs _ T1 a T' e
section
variable {P : Prog} {c1 c2 : Nat → List D → M D} (hc : ∀ f ds, LeM (c1 f ds) (c2 f ds))
include hc
theorem monoF (g : Nat) (ds : List D) : LeM (callF P c1 g ds) (callF P c2 g ds) := by
  unfold callF
  cases P.fns[g]? with
  | none => exact LeM.refl _
  | some fn => exact hc g _
theorem monoAtt (x : D) (f : Str) : LeM (attD P c1 x f) (attD P c2 x f) := by
  intro T a T' e
  unfold attD at e ⊢
  cases h1 : objOf T x with
  | none => rw [h1] at e; cases e
  | some q =>
    obtain ⟨c, ns, fs⟩ := q
    rw [h1] at e
    dsimp only at e ⊢
    cases h2 : clsIn c P.cls with
    | none => rw [h2] at e; cases e
    | some cd =>
      rw [h2] at e
      dsimp only at e ⊢
      cases h3 : hasS f cd.flds with
      | true => rw [h3] at e; exact e
      | false =>
        rw [h3] at e
        dsimp only at e ⊢
        cases h4 : lkS f cd.prps with
        | none => rw [h4] at e; cases e
        | some g => rw [h4] at e; exact hc g _ T a T' e
theorem monoMake (z : Bool) (c : Str) (ds : List D) : LeM (makeD P c1 z c ds) (makeD P c2 z c ds) := by
  intro T a T' e
  unfold makeD at e ⊢
  cases h2 : clsIn c P.cls with
  | none => rw [h2] at e; cases e
  | some cd =>
    rw [h2] at e
    dsimp only at e ⊢
    cases h4 : lkS "__init__" cd.mths with
    | none => rw [h4] at e; cases e
    | some g =>
      rw [h4] at e
      dsimp only at e ⊢
      cases h5 : callF P c1 g (.ref T.length :: ds) (T ++ [.obj c [] []]) with
      | bad => rw [h5] at e; cases e
      | ok b T1 =>
        rw [h5] at e
        rw [monoF hc g _ _ _ _ h5]
        exact e
theorem mono_all (e : E) : ∀ (env : Env), LeM (evalE P c1 e env) (evalE P c2 e env) := by
  refine E.rec (motive_1 := fun e => ∀ env, LeM (evalE P c1 e env) (evalE P c2 e env)) (motive_2 := fun it => ∀ env, LeM (evalI P c1 it env) (evalI P c2 it env))
    (motive_3 := fun es => (∀ env, LeM (evalEs P c1 es env) (evalEs P c2 es env)) ∧ ∀ fs env, LeM (evalSs P c1 es fs env) (evalSs P c2 es fs env))
    (motive_4 := fun o => (∀ env, LeM (evalO P c1 o env) (evalO P c2 o env)) ∧ ∀ env, LeM (evalC P c1 o env) (evalC P c2 o env))
    ?_ ?_ ?_ ?_ ?_ ?_ ?_ ?_ ?_ ?_ ?_ ?_ ?_ ?_ ?_ ?_ ?_ ?_ ?_ ?_ ?_ ?_ ?_ ?_ ?_ ?_ ?_ ?_ ?_ ?_ ?_ ?_ ?_ ?_ ?_ ?_ ?_ ?_ ?_ ?_ ?_ ?_ ?_ ?_ ?_ ?_ ?_ ?_ ?_ ?_ ?_ ?_ ?_ ?_ ?_ ?_ ?_ ?_ ?_ ?_ ?_ ?_ ?_ ?_ ?_ e
  · exact by intros; simp only [evalE]; exact LeM.refl _
  · exact by intro _ env; simp only [evalE]; exact LeM.refl _
  · exact by intros; simp only [evalE]; exact LeM.refl _
  · exact by intros; simp only [evalE]; exact LeM.refl _
  · exact by intros; simp only [evalE]; exact LeM.refl _
  · exact by intros; simp only [evalE]; exact LeM.refl _
  · exact fun _ a b ha hb env => by simp only [evalE]; exact (ha env).bind fun _ => (hb env).bind fun _ => LeM.refl _
  · exact fun a ha env => by simp only [evalE]; exact (ha env).bind fun _ => LeM.refl _
  · exact fun a ha env => by simp only [evalE]; exact (ha env).bind fun _ => LeM.refl _
  · exact fun _ a b ha hb env => by simp only [evalE]; exact (ha env).bind fun _ => (hb env).bind fun _ => LeM.refl _
  · exact fun _ _ a b c ha hb hd env => by
      simp only [evalE]
      refine (ha env).bind fun _ => (hb env).bind fun _ => (LeM.refl _).bind fun _ => (LeM.refl _).bind fun k => ?_
      cases k
      · exact LeM.refl _
      · exact (hd env).bind fun _ => LeM.refl _
  · exact fun a b ha hb env => by
      simp only [evalE]
      refine (ha env).bind fun _ => (LeM.refl _).bind fun k => ?_
      cases k
      · exact LeM.refl _
      · exact hb env
  · exact fun a b ha hb env => by
      simp only [evalE]
      refine (ha env).bind fun _ => (LeM.refl _).bind fun k => ?_
      cases k
      · exact hb env
      · exact LeM.refl _
  · exact fun a b ha hb env => by
      simp only [evalE]
      refine (ha env).bind fun x => ?_
      intro T r T' e
      dsimp only at e ⊢
      cases hx : isList T x with
      | none => rw [hx] at e; cases e
      | some xs =>
        rw [hx] at e
        cases xs with
        | nil => exact ((hb env).bind fun _ => LeM.refl _) T r T' e
        | cons _ _ => exact e
  · exact fun c a b hd ha hb env => by
      simp only [evalE]
      refine (hd env).bind fun _ => (LeM.refl _).bind fun k => ?_
      cases k
      · exact hb env
      · exact ha env
  · exact fun es h env => by simp only [evalE]; exact (h.1 env).bind fun _ => LeM.refl _
  · exact fun es h env => by simp only [evalE]; exact (h.1 env).bind fun _ => LeM.refl _
  · exact fun a b ha hb env => by simp only [evalE]; exact (ha env).bind fun _ => (hb env).bind fun _ => LeM.refl _
  · exact fun a lo hi ha hl hh env => by simp only [evalE]; exact (ha env).bind fun _ => (hl.1 env).bind fun _ => (hh.1 env).bind fun _ => LeM.refl _
  · exact fun f es h env => by simp only [evalE]; exact (h.1 env).bind fun ds => hc f ds
  · exact fun f args ks kws h1 h2 env => by
      simp only [evalE]
      refine (h1.1 env).bind fun ds => (h2.1 env).bind fun ws => ?_
      cases P.fns[f]? with
      | none => exact LeM.refl _
      | some fn =>
        dsimp only
        cases bindOk fn.ps ds.length ks && Nat.beq ws.length ks.length && fn.kws.contains ks
        · exact LeM.refl _
        · exact hc f _
  · exact fun _ es h env => by simp only [evalE]; exact (h.1 env).bind fun _ => LeM.refl _
  · exact fun a _ ha env => by simp only [evalE]; exact (ha env).bind fun _ => LeM.refl _
  · exact fun _ o es ho h env => by simp only [evalE]; exact (ho env).bind fun _ => (LeM.refl _).bind fun _ => (h.1 env).bind fun _ => LeM.refl _
  · exact fun own t it c e hi hk he env => by
      simp only [evalE]
      refine (hi env).bind fun w => (leComp (fun x => ?_) _ _).bind fun _ => LeM.refl _
      cases bindT t x (wipeE env own) with
      | none => exact LeM.refl _
      | some env1 =>
        refine (hk.2 env1).bind fun k => ?_
        cases k
        · exact LeM.refl _
        · exact (he env1).bind fun _ => LeM.refl _
  · exact fun tk own t it c k v hi hk h1 h2 env => by
      simp only [evalE]
      refine (hi env).bind fun w => (leDcomp (fun x => ?_) _ _).bind fun _ => LeM.refl _
      cases bindT t x (wipeE env own) with
      | none => exact LeM.refl _
      | some env1 =>
        refine (hk.2 env1).bind fun b => ?_
        cases b
        · exact LeM.refl _
        · exact (h1 env1).bind fun _ => (h2 env1).bind fun _ => LeM.refl _
  · exact by intros; simp only [evalE]; exact LeM.refl _
  · exact fun a ha env => by simp only [evalE]; exact (ha env).bind fun _ => LeM.refl _
  · exact fun a ha env => by simp only [evalE]; exact (ha env).bind fun _ => LeM.refl _
  · exact fun a ha env => by simp only [evalE]; exact (ha env).bind fun _ => LeM.refl _
  · exact by intros; simp only [evalE]; exact LeM.refl _
  · exact fun a f ha env => by simp only [evalE]; exact (ha env).bind fun x => monoAtt hc x f
  · exact fun a m es ha h env => by simp only [evalE]; exact (ha env).bind fun x => (LeM.refl _).bind fun g => (h.1 env).bind fun ds => monoF hc g _
  · exact fun zz c es h env => by simp only [evalE]; exact (h.1 env).bind fun ds => monoMake hc zz c ds
  · exact fun c m es h env => by
      simp only [evalE]
      cases statOf P c m with
      | none => exact LeM.refl _
      | some g => exact (h.1 env).bind fun ds => monoF hc g _
  · exact fun a es ha h env => by simp only [evalE]; exact (ha env).bind fun x => (h.1 env).bind fun ds => (LeM.refl _).bind fun g => monoF hc g _
  · exact fun ng a b ha hb env => by simp only [evalE]; exact (ha env).bind fun x => (hb env).bind fun y => (LeM.refl _).bind fun g => (LeM.refl _).bind fun _ => (hc g _).bind fun _ => LeM.refl _
  · exact fun a ha env => by simp only [evalE]; exact (ha env).bind fun x => (LeM.refl _).bind fun g => (hc g _).bind fun _ => LeM.refl _
  · exact fun a b ha hb env => by simp only [evalE]; exact (ha env).bind fun x => (hb env).bind fun y => (LeM.refl _).bind fun g => hc g _
  · exact fun ng a b ha hb env => by simp only [evalE]; exact (ha env).bind fun x => (hb env).bind fun y => (LeM.refl _).bind fun g => (hc g _).bind fun _ => LeM.refl _
  · exact fun op a b ha hb env => by simp only [evalE]; exact (ha env).bind fun x => (hb env).bind fun y => (LeM.refl _).bind fun g => (LeM.refl _).bind fun _ => hc g _
  · exact fun a _ ha env => by simp only [evalE]; exact (ha env).bind fun _ => LeM.refl _
  · exact fun fs es h env => by simp only [evalE]; exact (h.2 fs env).bind fun _ => LeM.refl _
  · exact fun fs es h env => by simp only [evalE]; exact (h.2 fs env).bind fun _ => LeM.refl _
  · exact fun a ha env => by simp only [evalE]; exact (ha env).bind fun _ => LeM.refl _
  · exact fun fs es h env => by simp only [evalE]; exact (h.2 fs env).bind fun _ => LeM.refl _
  · exact fun a ha env => by simp only [evalE]; exact (ha env).bind fun _ => LeM.refl _
  · exact fun a ha env => by simp only [evalE]; exact (ha env).bind fun _ => LeM.refl _
  · exact fun a ha env => by simp only [evalE]; exact (ha env).bind fun _ => LeM.refl _
  · exact fun a ha env => by simp only [evalE]; exact (ha env).bind fun _ => LeM.refl _
  · exact fun a ha env => by simp only [evalE]; exact (ha env).bind fun _ => LeM.refl _
  · exact fun a ha env => by simp only [evalE]; exact (ha env).bind fun _ => LeM.refl _
  · exact fun own t it c own2 t2 it2 c2 e hi hk hi2 hk2 he env => by
      simp only [evalE]
      refine (hi env).bind fun w => (leComp2 (fun x acc => ?_) _ _).bind fun _ => LeM.refl _
      cases bindT t x (wipeE env own) with
      | none => exact LeM.refl _
      | some env1 =>
        refine (hk.2 env1).bind fun k => ?_
        cases k
        · exact LeM.refl _
        · refine (hi2 env1).bind fun w2 => leComp (fun x2 => ?_) _ _
          cases bindT t2 x2 (wipeE env1 own2) with
          | none => exact LeM.refl _
          | some env2 =>
            refine (hk2.2 env2).bind fun k => ?_
            cases k
            · exact LeM.refl _
            · exact (he env2).bind fun _ => LeM.refl _
  · exact fun a ha env => by simp only [evalI]; exact (ha env).bind fun _ => LeM.refl _
  · exact fun a ha env => by simp only [evalI]; exact (ha env).bind fun _ => LeM.refl _
  · exact fun a b ha hb env => by simp only [evalI]; exact (ha env).bind fun _ => (hb env).bind fun _ => LeM.refl _
  · exact fun a ha env => by simp only [evalI]; exact (ha env).bind fun _ => LeM.refl _
  · exact fun a b ha hb env => by simp only [evalI]; exact (ha env).bind fun _ => (hb env).bind fun _ => LeM.refl _
  · exact fun a b ha hb env => by simp only [evalI]; exact (ha env).bind fun _ => (hb env).bind fun _ => LeM.refl _
  · exact fun a ha env => by simp only [evalI]; exact (ha env).bind fun _ => LeM.refl _
  · exact fun a b c _ _ _ env => by simp only [evalI]; exact LeM.refl _
  · exact ⟨fun env => by simp only [evalEs]; exact LeM.refl _, fun fs env => by simp only [evalSs]; exact LeM.refl _⟩
  · exact fun e es he hs => ⟨fun env => by simp only [evalEs]; exact (he env).bind fun _ => (hs.1 env).bind fun _ => LeM.refl _, fun fs env => by
      simp only [evalSs]
      match fs with
      | [] => exact LeM.refl _
      | true :: fs => exact (he env).bind fun _ => (LeM.refl _).bind fun _ => (hs.2 fs env).bind fun _ => LeM.refl _
      | false :: fs => exact (he env).bind fun _ => (hs.2 fs env).bind fun _ => LeM.refl _⟩
  · exact ⟨fun env => by simp only [evalO]; exact LeM.refl _, fun env => by simp only [evalC]; exact LeM.refl _⟩
  · exact fun e he => ⟨fun env => by simp only [evalO]; exact (he env).bind fun _ => LeM.refl _, fun env => by simp only [evalC]; exact (he env).bind fun _ => LeM.refl _⟩
theorem mono_es (es : List E) : (∀ (env : Env), LeM (evalEs P c1 es env) (evalEs P c2 es env)) ∧ ∀ fs env, LeM (evalSs P c1 es fs env) (evalSs P c2 es fs env) := by
  induction es with
  | nil => exact ⟨fun env => by simp only [evalEs]; exact LeM.refl _, fun fs env => by simp only [evalSs]; exact LeM.refl _⟩
  | cons e es hs =>
    refine ⟨fun env => by simp only [evalEs]; exact (mono_all hc e env).bind fun _ => (hs.1 env).bind fun _ => LeM.refl _, fun fs env => ?_⟩
    simp only [evalSs]
    match fs with
    | [] => exact LeM.refl _
    | true :: fs => exact (mono_all hc e env).bind fun _ => (LeM.refl _).bind fun _ => (hs.2 fs env).bind fun _ => LeM.refl _
    | false :: fs => exact (mono_all hc e env).bind fun _ => (hs.2 fs env).bind fun _ => LeM.refl _
theorem monoE (e : E) (env : Env) : LeM (evalE P c1 e env) (evalE P c2 e env) := mono_all hc e env
theorem monoEs (es : List E) (env : Env) : LeM (evalEs P c1 es env) (evalEs P c2 es env) := (mono_es hc es).1 env
theorem monoI (it : I) (env : Env) : LeM (evalI P c1 it env) (evalI P c2 it env) := by
  have hE := fun e => mono_all (P := P) hc e env
  cases it <;> simp only [evalI]
  · exact (hE _).bind fun _ => LeM.refl _
  · exact (hE _).bind fun _ => LeM.refl _
  · exact (hE _).bind fun _ => (hE _).bind fun _ => LeM.refl _
  · exact (hE _).bind fun _ => LeM.refl _
  · exact (hE _).bind fun _ => (hE _).bind fun _ => LeM.refl _
  · exact (hE _).bind fun _ => (hE _).bind fun _ => LeM.refl _
  · exact (hE _).bind fun _ => LeM.refl _
  · exact LeM.refl _
theorem monoT (e : E) (env : Env) : LeM (evalT P c1 e env) (evalT P c2 e env) := (monoE hc e env).bind fun _ => LeM.refl _
mutual
theorem monoS : ∀ (s : S) (env : Env), LeM (exec P c1 s env) (exec P c2 s env)
  | .expr e, env => by simp only [exec]; exact (monoE hc e env).bind fun _ => LeM.refl _
  | .asg t e, env => by simp only [exec]; exact (monoE hc e env).bind fun _ => LeM.refl _
  | .par2 _ _ a b, env => by simp only [exec]; exact (monoE hc a env).bind fun _ => (monoE hc b env).bind fun _ => LeM.refl _
  | .par3 _ _ _ a b c, env => by simp only [exec]; exact (monoE hc a env).bind fun _ => (monoE hc b env).bind fun _ => (monoE hc c env).bind fun _ => LeM.refl _
  | .asgIdx o i e, env => by simp only [exec]; exact (monoE hc e env).bind fun _ => (monoE hc o env).bind fun _ => (monoE hc i env).bind fun _ => LeM.refl _
  | .aug i op e, env => by simp only [exec]; exact (LeM.refl _).bind fun _ => (monoE hc e env).bind fun _ => LeM.refl _
  | .ret e, env => by simp only [exec]; exact (monoE hc e env).bind fun _ => LeM.refl _
  | .retN, env => by simp only [exec]; exact LeM.refl _
  | .ifs c a b, env => by
    simp only [exec]
    refine (monoT hc c env).bind fun k => ?_
    cases k
    · exact monoSs b env
    · exact monoSs a env
  | .loop t it body, env => by
    simp only [exec]
    refine (monoI hc it env).bind fun w => leFor (fun x env1 => ?_) _ _
    cases bindT t x env1 with
    | none => exact LeM.refl _
    | some env2 => exact monoSs body env2
  | .whil n c body, env => by simp only [exec]; exact leWhile (monoT hc c) (fun env => monoSs body env) n env
  | .brk, env => by simp only [exec]; exact LeM.refl _
  | .cnt, env => by simp only [exec]; exact LeM.refl _
  | .pass, env => by simp only [exec]; exact LeM.refl _
  | .bad, env => by simp only [exec]; exact LeM.refl _
  | .asgF o f e, env => by simp only [exec]; exact (monoE hc e env).bind fun _ => (monoE hc o env).bind fun _ => LeM.refl _
  | .parF o fs es, env => by simp only [exec]; exact (monoEs hc es env).bind fun _ => (monoE hc o env).bind fun _ => LeM.refl _
theorem monoSs : ∀ (ss : List S) (env : Env), LeM (execs P c1 ss env) (execs P c2 ss env)
  | [], env => by simp only [execs]; exact LeM.refl _
  | s :: ss, env => by
    simp only [execs]
    refine (monoS s env).bind fun f => ?_
    cases f with
    | nx env' => exact monoSs ss env'
    | rt _ => exact LeM.refl _
    | bk _ => exact LeM.refl _
    | ct _ => exact LeM.refl _
end
theorem monoFn (f : Nat) (ds : List D) : LeM (runFn P c1 f ds) (runFn P c2 f ds) := by
  unfold runFn
  cases P.fns[f]? with
  | none => exact LeM.refl _
  | some fn =>
    dsimp only
    cases Nat.beq ds.length fn.ps.length && Nat.ble fn.ps.length fn.N.length
    · exact LeM.refl _
    · intro T a T' e
      cases ds with
      | nil =>
        dsimp only at e ⊢
        cases h : execs P c1 fn.body (([] : List D).map some ++ List.replicate (fn.N.length - ([] : List D).length) none) [] with
        | bad => rw [h] at e; cases e
        | ok r T1 =>
          rw [h] at e
          rw [monoSs hc _ _ [] r T1 h]
          exact e
      | cons d ds =>
        dsimp only at e ⊢
        cases h : execs P c1 fn.body ((d :: ds).map some ++ List.replicate (fn.N.length - (d :: ds).length) none) T with
        | bad => rw [h] at e; cases e
        | ok r T1 =>
          rw [h] at e
          rw [monoSs hc _ _ T r T1 h]
          exact e
end
/-- deeper calls give no less -/
theorem callN_up (P : Prog) : ∀ (n : Nat) (f : Nat) (ds : List D), LeM (callN P n f ds) (callN P (n + 1) f ds)
  | 0, f, ds => fun T a T' e => by cases e
  | n + 1, f, ds => monoFn (callN_up P n) f ds
theorem callN_le (P : Prog) {n m : Nat} (h : n ≤ m) (f : Nat) (ds : List D) : LeM (callN P n f ds) (callN P m f ds) := by
  induction h with
  | refl => exact LeM.refl _
  | step _ ih => exact ih.trans (callN_up P _ f ds)

/-! ### folds -/
def mapG {α β : Type} (φ : α → Option β) : List α → Option (List β)
  | [] => some []
  | x :: xs => match φ x, mapG φ xs with
    | some y, some ys => some (y :: ys)
    | _, _ => none
def foldG {α σ : Type} (φ : σ → α → Option σ) : σ → List α → Option σ
  | s, [] => some s
  | s, x :: xs => match φ s x with
    | some s' => foldG φ s' xs
    | none => none
def mulG (a b : Int) : Option Int := match mulOk a b with
  | true => some (a * b)
  | false => none
theorem mulG_ok {a b c : Int} {T : Store} (h : mulG a b = some c) : opD .mul (.int a) (.int b) T = .ok (.int c) T := by
  unfold mulG at h
  cases hm : mulOk a b with
  | false => rw [hm] at h; cases h
  | true =>
    rw [hm] at h
    cases h
    show okIf (mulOk a b) _ T = _
    rw [hm]
    rfl
theorem mapG_len {α β : Type} {φ : α → Option β} : ∀ {xs : List α} {ys : List β}, mapG φ xs = some ys → ys.length = xs.length
  | [], ys, h => by cases h; rfl
  | x :: xs, ys, h => by
    unfold mapG at h
    cases hx : φ x with
    | none => rw [hx] at h; cases h
    | some y =>
      cases hr : mapG φ xs with
      | none => rw [hx, hr] at h; cases h
      | some zs =>
        rw [hx, hr] at h
        cases h
        simp [mapG_len hr]
theorem compL_go {α β : Type} {g : Guard} {f : D → M (Option D)} {T : Store} (mk : α → D) (out : β → D) (φ : α → Option β) (hg : stays g T = true) : ∀ (xs : List α) (ys : List β) (acc : List D), (∀ x y, x ∈ xs → φ x = some y → f (mk x) T = .ok (some (out y)) T) →
    mapG φ xs = some ys → acc.length + xs.length ≤ sizeLine → compL g f (xs.map mk) acc T = .ok (acc.reverse ++ ys.map out) T
  | [], ys, acc, hf, h, hl => by
    cases h
    simp [compL, hg, okIf]
  | x :: xs, ys, acc, hf, h, hl => by
    unfold mapG at h
    cases hx : φ x with
    | none => rw [hx] at h; cases h
    | some y =>
      cases hr : mapG φ xs with
      | none => rw [hx, hr] at h; cases h
      | some zs =>
        rw [hx, hr] at h
        cases h
        simp only [List.map_cons, compL, hg]
        rw [hf x y (by simp) hx]
        have hb : Nat.blt acc.length sizeLine = true := by
          rw [Nat.blt_eq]
          simp only [List.length_cons] at hl
          omega
        simp only [hb]
        rw [compL_go mk out φ hg xs zs (out y :: acc) (fun a b ha => hf a b (List.mem_cons_of_mem _ ha)) hr (by simp only [List.length_cons] at hl ⊢; omega)]
        simp
theorem compL_ok {α β : Type} {g : Guard} {f : D → M (Option D)} {T : Store} (mk : α → D) (out : β → D) (φ : α → Option β) {xs : List α} {ys : List β} (hg : stays g T = true) (hf : ∀ x y, x ∈ xs → φ x = some y → f (mk x) T = .ok (some (out y)) T)
    (h : mapG φ xs = some ys) (hl : xs.length ≤ sizeLine) : compL g f (xs.map mk) [] T = .ok (ys.map out) T := by
  rw [compL_go mk out φ hg xs ys [] hf h (by simpa using hl)]
  rfl
theorem forL_ok {α σ : Type} {g : Guard} {f : D → Env → M Fl} (mk : α → D) (φ : σ → α → Option σ) (Rel : σ → Env → Store → Prop)
    (hg : ∀ s env T, Rel s env T → stays g T = true) : ∀ (xs : List α) (s s' : σ) (env : Env) (T : Store), (∀ x s s1 env T, x ∈ xs → Rel s env T → φ s x = some s1 → ∃ env' T', f (mk x) env T = .ok (.nx env') T' ∧ Rel s1 env' T') → Rel s env T → foldG φ s xs = some s' →
    ∃ env' T', forL g f (xs.map mk) env T = .ok (.nx env') T' ∧ Rel s' env' T'
  | [], s, s', env, T, hf, r, h => by
    cases h
    exact ⟨env, T, by simp [forL, hg s env T r, okIf], r⟩
  | x :: xs, s, s', env, T, hf, r, h => by
    unfold foldG at h
    cases hx : φ s x with
    | none => rw [hx] at h; cases h
    | some s1 =>
      rw [hx] at h
      obtain ⟨env1, T1, e1, r1⟩ := hf x s s1 env T (by simp) r hx
      obtain ⟨env2, T2, e2, r2⟩ := forL_ok mk φ Rel hg xs s1 s' env1 T1 (fun a => fun s s1 env T ha => hf a s s1 env T (List.mem_cons_of_mem _ ha)) r1 h
      refine ⟨env2, T2, ?_, r2⟩
      simp only [List.map_cons, forL, hg s env T r, e1]
      exact e2
/-! ### what is walked -/
def upI (lo : Int) : Nat → List Int
  | 0 => []
  | n + 1 => lo :: upI (lo + 1) n
theorem upTo_map : ∀ (lo : Int) (n : Nat), upTo lo n = (upI lo n).map D.int
  | _, 0 => rfl
  | lo, n + 1 => by simp only [upTo, upI, List.map_cons, upTo_map (lo + 1) n]
theorem upI_len : ∀ (lo : Int) (n : Nat), (upI lo n).length = n
  | _, 0 => rfl
  | lo, n + 1 => by simp [upI, upI_len]
theorem upI_mem : ∀ (lo : Int) (n : Nat) (i : Int), i ∈ upI lo n → lo ≤ i ∧ i < lo + n
  | _, 0, i, h => by simp [upI] at h
  | lo, n + 1, i, h => by
    simp only [upI, List.mem_cons] at h
    rcases h with rfl | h
    · omega
    · have := upI_mem (lo + 1) n i h
      omega
def enI (k : Int) : List Int → List (Int × Int)
  | [] => []
  | x :: xs => (k, x) :: enI (k + 1) xs
def dP (p : Int × Int) : D := .tup [.int p.1, .int p.2]
theorem enumL_map : ∀ (k : Int) (xs : List Int), enumL k (xs.map D.int) = (enI k xs).map dP
  | _, [] => rfl
  | k, x :: xs => by simp only [List.map_cons, enumL, enI, enumL_map (k + 1) xs]; rfl
def zpI : List Int → List Int → List (Int × Int)
  | x :: xs, y :: ys => (x, y) :: zpI xs ys
  | _, _ => []
theorem zipL_map : ∀ (xs ys : List Int), zipL (xs.map D.int) (ys.map D.int) = (zpI xs ys).map dP
  | [], _ => by simp [zipL, zpI]
  | _ :: _, [] => by simp [zipL, zpI]
  | x :: xs, y :: ys => by simp only [List.map_cons, zipL, zpI, zipL_map xs ys]; rfl
def enP (k : Int) : List (Int × Int) → List (Int × Int × Int)
  | [] => []
  | x :: xs => (k, x.1, x.2) :: enP (k + 1) xs
def dP3 (p : Int × Int × Int) : D := .tup [.int p.1, .tup [.int p.2.1, .int p.2.2]]
theorem enumP_map : ∀ (k : Int) (xs : List (Int × Int)), enumL k (xs.map dP) = (enP k xs).map dP3
  | _, [] => rfl
  | k, x :: xs => by simp only [List.map_cons, enumL, enP, enumP_map (k + 1) xs]; rfl
theorem atI_map {xs : List Int} {k : Int} : L2.atI (xs.map D.int) k = (L2.atI xs k).map D.int := by
  unfold L2.atI
  simp [L2.ixN]
  rfl
theorem intsD_map : ∀ (xs : List Int), intsD (xs.map D.int) = some xs
  | [] => rfl
  | x :: xs => by simp only [List.map_cons, intsD, intsD_map xs]
theorem beqN_refl : ∀ (a : List Nat), beqN a a = true
  | [] => rfl
  | x :: xs => by simp only [beqN, Nat.beq_refl, beqN_refl xs, Bool.and_self]
theorem beqS_refl (a : Str) : beqS a a = true := beqN_refl _
theorem sameN_refl : ∀ (a : List Str), sameN a a = true
  | [] => rfl
  | x :: xs => by simp only [sameN, beqS_refl, sameN_refl xs, Bool.and_self]
mutual
theorem sameD_refl : ∀ (d : D), sameD d d = true
  | .non => rfl
  | .bl b => by simp only [sameD, BEq.rfl]
  | .int i => by simp only [sameD, decide_true]
  | .str i => by simp only [sameD, decide_true]
  | .tup xs => by simp only [sameD, sameL_refl xs]
  | .lst xs => by simp only [sameD, sameL_refl xs]
  | .ext t xs => by simp only [sameD, sameL_refl xs, BEq.rfl, Bool.and_self]
  | .ref n => by simp only [sameD, Nat.beq_refl]
  | .obj c ns fs => by simp only [sameD, beqS_refl, sameN_refl, sameL_refl fs, Bool.and_self]
  | .lab xs => by simp only [sameD, sameL_refl xs]
theorem sameL_refl : ∀ (xs : List D), sameL xs xs = true
  | [] => rfl
  | x :: xs => by simp only [sameL, sameD_refl x, sameL_refl xs, Bool.and_self]
end
/-! ### running -/
theorem sameKV_refl : ∀ (a : List (D × D)), sameKV a a = true
  | [] => rfl
  | (a, b) :: r => by simp only [sameKV, sameD_refl, sameKV_refl r, Bool.and_self]
theorem sameS_refl : ∀ (T : Store), sameS T T = true
  | [] => rfl
  | .dead :: T => by simp only [sameS, sameC, sameS_refl T, Bool.and_self]
  | .lst a :: T => by simp only [sameS, sameC, sameL_refl, sameS_refl T, Bool.and_self]
  | .dic t a :: T => by simp only [sameS, sameC, sameKV_refl, sameS_refl T, BEq.rfl, Bool.and_self]
  | .obj a b c :: T => by simp only [sameS, sameC, beqS_refl, sameN_refl, sameL_refl, sameS_refl T, Bool.and_self]
theorem gc_app {T X : Store} {d : D} (h : closD T.length d = true) : gcS true T (T ++ X) d = T := by
  unfold gcS
  rw [List.take_left, h, sameS_refl]
  rfl
theorem gc_len {b : Bool} {T T' : Store} {d : D} (h : T'.length = T.length) : gcS b T T' d = T' := by
  unfold gcS
  rw [← h, List.take_length]
  split <;> rfl
theorem run_raw {P : Prog} {call : Nat → List D → M D} {f : Nat} {fn : Fn} {d0 : D} {ds : List D} {T T' : Store} {d : D} (hf : P.fns[f]? = some fn) (hl : (Nat.beq (d0 :: ds).length fn.ps.length && Nat.ble fn.ps.length fn.N.length) = true)
    (h : execs P call fn.body ((d0 :: ds).map some ++ List.replicate (fn.N.length - (d0 :: ds).length) none) T = .ok (.rt d) T') : runFn P call f (d0 :: ds) T = .ok d (gcS fn.gc T T' d) := by
  unfold runFn
  rw [hf]
  simp only [hl, h]
  rfl
/-- a run that leaves the store's size -/
theorem run_of {P : Prog} {call : Nat → List D → M D} {f : Nat} {fn : Fn} {d0 : D} {ds : List D} {T T' : Store} {d : D} (hf : P.fns[f]? = some fn) (hl : (Nat.beq (d0 :: ds).length fn.ps.length && Nat.ble fn.ps.length fn.N.length) = true)
    (h : execs P call fn.body ((d0 :: ds).map some ++ List.replicate (fn.N.length - (d0 :: ds).length) none) T = .ok (.rt d) T') (hlen : T'.length = T.length) : runFn P call f (d0 :: ds) T = .ok d T' := by
  rw [run_raw hf hl h, gc_len hlen]
/-- a run that adds cells and forgets them -/
theorem run_app {P : Prog} {call : Nat → List D → M D} {f : Nat} {fn : Fn} {d0 : D} {ds : List D} {T X : Store} {d : D} (hf : P.fns[f]? = some fn) (hl : (Nat.beq (d0 :: ds).length fn.ps.length && Nat.ble fn.ps.length fn.N.length) = true)
    (h : execs P call fn.body ((d0 :: ds).map some ++ List.replicate (fn.N.length - (d0 :: ds).length) none) T = .ok (.rt d) (T ++ X)) (hg : fn.gc = true) (hc : closD T.length d = true) : runFn P call f (d0 :: ds) T = .ok d T := by
  rw [run_raw hf hl h, hg, gc_app hc]
theorem exs {P : Prog} {call : Nat → List D → M D} {s : S} {ss : List S} {env env' : Env} {T T' : Store} {r : Res Fl} (h : exec P call s env T = .ok (.nx env') T') (k : execs P call ss env' T' = r) : execs P call (s :: ss) env T = r := by
  simp only [execs, mbind, h]
  exact k
theorem exr {P : Prog} {call : Nat → List D → M D} {e : E} {ss : List S} {env : Env} {T T' : Store} {d : D} (h : evalE P call e env T = .ok d T') : execs P call (.ret e :: ss) env T = .ok (.rt d) T' := by
  simp only [execs, exec, mbind, h]
  rfl
theorem exa {P : Prog} {call : Nat → List D → M D} {t : Tg} {e : E} {ss : List S} {env env' : Env} {T T' : Store} {d : D} {r : Res Fl} (h : evalE P call e env T = .ok d T') (hb : bindT t d env = some env') (k : execs P call ss env' T' = r) : execs P call (.asg t e :: ss) env T = r := by
  refine exs ?_ k
  simp only [exec, mbind, h, hb]
  rfl
theorem exl {P : Prog} {call : Nat → List D → M D} {t : Tg} {it : I} {body ss : List S} {env env' : Env} {T T1 T' : Store} {w : Walk} {r : Res Fl} (h : evalI P call it env T = .ok w T1)
    (hb : forL w.2 (fun x env1 => match bindT t x env1 with
      | some env2 => execs P call body env2
      | none => fail) w.1 env T1 = .ok (.nx env') T') (k : execs P call ss env' T' = r) : execs P call (.loop t it body :: ss) env T = r := by
  refine exs ?_ k
  simp only [exec, mbind, h]
  exact hb
end Pz

set_option Elab.async false
set_option linter.all false
set_option maxRecDepth 100000
set_option maxHeartbeats 1000000
/-! P2: big steps of the interpreter. -/
namespace Pz
open PySem
def chk {α : Type} (b : Bool) (x : Option α) : Option α := match b with
  | true => x
  | false => none
theorem chk_some {α : Type} {b : Bool} {x : Option α} {a : α} (h : chk b x = some a) : b = true ∧ x = some a := by
  cases b
  · cases h
  · exact ⟨rfl, h⟩
theorem obind {α β : Type} {x : Option α} {f : α → Option β} {b : β} (h : x.bind f = some b) : ∃ a, x = some a ∧ f a = some b := by
  cases x with
  | none => cases h
  | some a => exact ⟨a, rfl, h⟩
theorem omap {α β : Type} {x : Option α} {f : α → β} {b : β} (h : x.map f = some b) : ∃ a, x = some a ∧ f a = b := by
  cases x with
  | none => cases h
  | some a => cases h; exact ⟨a, rfl, rfl⟩
section
variable {P : Prog} {call : Nat → List D → M D} {env : Env} {T T1 T2 T3 : Store} {x y d : D}
theorem ev_bin {op : BOp} {a b : E} {r : Res D} (ha : evalE P call a env T = .ok x T1) (hb : evalE P call b env T1 = .ok y T2) (ho : opD op x y T2 = r) : evalE P call (.bin op a b) env T = r := by
  simp only [evalE, mbind, ha, hb, ho]
theorem ev_cmp {op : COp} {a b : E} {r : Res D} (ha : evalE P call a env T = .ok x T1) (hb : evalE P call b env T1 = .ok y T2) (ho : cmpD op x y T2 = r) : evalE P call (.cmp op a b) env T = r := by
  simp only [evalE, mbind, ha, hb, ho]
theorem ev_cmp2 {op op' : COp} {a b c : E} {z : D} {k k2 : Bool} (ha : evalE P call a env T = .ok x T) (hb : evalE P call b env T = .ok y T) (hc : evalE P call c env T = .ok z T) (h1 : cmpD op x y T = .ok (.bl k) T) (h2 : cmpD op' y z T = .ok (.bl k2) T) :
    evalE P call (.cmp2 op op' a b c) env T = .ok (.bl (k && k2)) T := by
  have hb' : ∀ k T, boolD (.bl k) T = .ok k T := fun _ _ => rfl
  simp only [evalE, mbind, ha, hb, h1, hb']
  cases k
  · rfl
  · simp only [mbind, hc, h2]
    rfl
theorem ev_orT_n {a b : E} {d0 : D} {ds : List D} (ha : evalE P call a env T = .ok x T1) (hx : isList T1 x = some (d0 :: ds)) : evalE P call (.orT a b) env T = .ok x T1 := by
  simp only [evalE]
  refine (mbind _ _ T).trans ?_
  rw [ha]
  simp only [hx]
theorem ev_orT_e {a b : E} (ha : evalE P call a env T = .ok x T1) (hx : isList T1 x = some []) (hb : evalE P call b env T1 = .ok y T2) {zs : List D} (hy : isList T2 y = some zs) : evalE P call (.orT a b) env T = .ok y T2 := by
  simp only [evalE]
  refine (mbind _ _ T).trans ?_
  rw [ha]
  simp only [hx]
  refine (mbind _ _ T1).trans ?_
  rw [hb]
  simp only [listOnly, hy]
theorem ev_idx {a b : E} {r : Res D} (ha : evalE P call a env T = .ok x T1) (hb : evalE P call b env T1 = .ok y T2) (ho : idxD x y T2 = r) : evalE P call (.idx a b) env T = r := by
  simp only [evalE, mbind, ha, hb, ho]
theorem ev_ite {c a b : E} {k : Bool} {r : Res D} (hc : evalE P call c env T = .ok (.bl k) T1) (h : cond k (evalE P call a env T1) (evalE P call b env T1) = r) : evalE P call (.ite c a b) env T = r := by
  simp only [evalE, mbind, hc]
  show (match k with | true => evalE P call a env | false => evalE P call b env) T1 = r
  cases k <;> exact h
theorem ev_call {f : Nat} {args : List E} {ds : List D} {r : Res D} (ha : evalEs P call args env T = .ok ds T1) (h : call f ds T1 = r) : evalE P call (.call f args) env T = r := by
  simp only [evalE, mbind, ha, h]
theorem ev_callK {f : Nat} {args kws : List E} {ks : List Str} {ds ws : List D} {fn : Fn} {r : Res D} (ha : evalEs P call args env T = .ok ds T1) (hk : evalEs P call kws env T1 = .ok ws T2) (hf : P.fns[f]? = some fn)
    (hb : (bindOk fn.ps ds.length ks && Nat.beq ws.length ks.length && fn.kws.contains ks) = true) (h : call f (kwG fn.ps ks ds ws) T2 = r) : evalE P call (.callK f args ks kws) env T = r := by
  simp only [evalE, mbind, ha, hk, hf, hb]
  exact h
theorem ev_nil : evalEs P call [] env T = .ok [] T := by simp only [evalEs]; rfl
theorem ev_cons {e : E} {es : List E} {ds : List D} (ha : evalE P call e env T = .ok x T1) (hb : evalEs P call es env T1 = .ok ds T2) : evalEs P call (e :: es) env T = .ok (x :: ds) T2 := by
  simp only [evalEs, mbind, ha, hb]
  rfl
theorem ev_lst {es : List E} {ds : List D} (ha : evalEs P call es env T = .ok ds T1) (hl : lim ds.length = true) : evalE P call (.lst es) env T = .ok (.lst ds) T1 := by
  simp only [evalE]
  refine (mbind (evalEs P call es env) (fun ds => (fun T => okIf (lim ds.length) (D.lst ds) T : M D)) T).trans ?_
  rw [ha]
  show okIf (lim ds.length) _ _ = _
  rw [hl]
  rfl
theorem ev_tup {es : List E} {ds : List D} (ha : evalEs P call es env T = .ok ds T1) (hl : lim ds.length = true) : evalE P call (.tup es) env T = .ok (.tup ds) T1 := by
  simp only [evalE]
  refine (mbind (evalEs P call es env) (fun ds => (fun T => okIf (lim ds.length) (D.tup ds) T : M D)) T).trans ?_
  rw [ha]
  show okIf (lim ds.length) _ _ = _
  rw [hl]
  rfl
theorem ev_blt {b : Blt} {es : List E} {ds : List D} {r : Res D} (ha : evalEs P call es env T = .ok ds T1) (h : bltD b ds T1 = r) : evalE P call (.blt b es) env T = r := by
  simp only [evalE, mbind, ha, h]
theorem ev_mut {a : E} {r : Res D} (ha : evalE P call a env T = .ok x T1) (h : mutD x T1 = r) : evalE P call (.mut a) env T = r := by
  simp only [evalE, mbind, ha, h]
theorem ev_frz {a : E} {r : Res D} (ha : evalE P call a env T = .ok x T1) (h : frzD x T1 = r) : evalE P call (.frz a) env T = r := by
  simp only [evalE, mbind, ha, h]
theorem ev_not {a : E} {r : Res D} (ha : evalE P call a env T = .ok x T1) (h : notD x T1 = r) : evalE P call (.not a) env T = r := by
  simp only [evalE, mbind, ha, h]
theorem ev_mth {m : Mt} {o : E} {es : List E} {ds : List D} {r : Res D} (ho : evalE P call o env T = .ok x T1) (ht : tyOk m x T1 = true) (ha : evalEs P call es env T1 = .ok ds T2) (h : mthD m x ds T2 = r) : evalE P call (.mth m o es) env T = r := by
  simp only [evalE, mbind, ho]
  refine (mbind (fun T => okIf (tyOk m x T) () T : M Unit) (fun _ => (evalEs P call es env >>= fun ds => mthD m x ds)) T1).trans ?_
  rw [ht]
  show (evalEs P call es env >>= fun ds => mthD m x ds) T1 = _
  simp only [mbind, ha, h]
theorem ev_slc {a : E} {lo hi : Option E} {l h : Option Int} {r : Res D} (ha : evalE P call a env T = .ok x T1) (hl : evalO P call lo env T1 = .ok l T2) (hh : evalO P call hi env T2 = .ok h T3) (hr : slcD x l h T3 = r) : evalE P call (.slc a lo hi) env T = r := by
  simp only [evalE, mbind, ha, hl, hh, hr]
theorem ev_comp {α β : Type} {own : List Nat} {t : Tg} {it : I} {c : Option E} {e : E} {g : Guard} {xs : List α} {ys : List β} (mk : α → D) (out : β → D) (φ : α → Option β) (hi : evalI P call it env T = .ok (xs.map mk, g) T) (hg : stays g T = true)
    (hf : ∀ x y, x ∈ xs → φ x = some y → ∃ env1, bindT t (mk x) (wipeE env own) = some env1 ∧ evalC P call c env1 T = .ok true T ∧ evalE P call e env1 T = .ok (out y) T) (h : mapG φ xs = some ys) (hl : xs.length ≤ sizeLine) :
    evalE P call (.comp own t it c e) env T = .ok (.lst (ys.map out)) T := by
  simp only [evalE, mbind, hi]
  rw [compL_ok mk out φ hg (fun x y hx hy => ?_) h hl]
  · rfl
  · obtain ⟨env1, h1, h2, h3⟩ := hf x y hx hy
    simp only [h1, mbind, h2, h3]
    rfl
theorem ex_loop {α σ : Type} {t : Tg} {it : I} {body ss : List S} {g : Guard} {xs : List α} {s s' : σ} {r : Res Fl} (mk : α → D) (φ : σ → α → Option σ) (Rel : σ → Env → Store → Prop) (hi : evalI P call it env T = .ok (xs.map mk, g) T1)
    (hg : ∀ s env T, Rel s env T → stays g T = true)
    (hf : ∀ x s s1 env T, x ∈ xs → Rel s env T → φ s x = some s1 → ∃ env2 env' T', bindT t (mk x) env = some env2 ∧ execs P call body env2 T = .ok (.nx env') T' ∧ Rel s1 env' T') (r0 : Rel s env T1) (h : foldG φ s xs = some s')
    (k : ∀ env' T', Rel s' env' T' → execs P call ss env' T' = r) : execs P call (.loop t it body :: ss) env T = r := by
  obtain ⟨env', T', e, r1⟩ := forL_ok (f := fun x env1 => match bindT t x env1 with
      | some env2 => execs P call body env2
      | none => fail) mk φ Rel hg xs s s' env T1 (fun x s s1 env T hx hr hs => by
        obtain ⟨env2, env', T', h1, h2, h3⟩ := hf x s s1 env T hx hr hs
        exact ⟨env', T', by simp only [h1, h2], h3⟩) r0 h
  exact exl hi e (k env' T' r1)
theorem loop_ex {α σ : Type} {t : Tg} {it : I} {body : List S} {g : Guard} {xs : List α} {s s' : σ} (mk : α → D) (φ : σ → α → Option σ) (Rel : σ → Env → Store → Prop) (hi : evalI P call it env T = .ok (xs.map mk, g) T1)
    (hg : ∀ s env T, Rel s env T → stays g T = true)
    (hf : ∀ x s s1 env T, x ∈ xs → Rel s env T → φ s x = some s1 → ∃ env2 env' T', bindT t (mk x) env = some env2 ∧ execs P call body env2 T = .ok (.nx env') T' ∧ Rel s1 env' T') (r0 : Rel s env T1) (h : foldG φ s xs = some s') :
    ∃ env' T', exec P call (.loop t it body) env T = .ok (.nx env') T' ∧ Rel s' env' T' := by
  obtain ⟨env', T', e, r1⟩ := forL_ok (f := fun x env1 => match bindT t x env1 with
      | some env2 => execs P call body env2
      | none => fail) mk φ Rel hg xs s s' env T1 (fun x s s1 env T hx hr hs => by
        obtain ⟨env2, env', T', h1, h2, h3⟩ := hf x s s1 env T hx hr hs
        exact ⟨env', T', by simp only [h1, h2], h3⟩) r0 h
  refine ⟨env', T', ?_, r1⟩
  simp only [exec, mbind, hi]
  exact e
theorem ex_idx {o i e : E} {ss : List S} {r : Res Fl} {v k : D} {T4 : Store} (he : evalE P call e env T = .ok v T1) (ho : evalE P call o env T1 = .ok x T2) (hi : evalE P call i env T2 = .ok k T3) (hs : setIdx x k v T3 = .ok () T4) (h : execs P call ss env T4 = r) : execs P call (.asgIdx o i e :: ss) env T = r := by
  refine exs (env' := env) (T' := T4) ?_ h
  simp only [exec, mbind, he, ho, hi, hs]
  rfl
theorem ex_expr {e : E} {ss : List S} {r : Res Fl} (he : evalE P call e env T = .ok x T1) (h : execs P call ss env T1 = r) : execs P call (.expr e :: ss) env T = r := by
  refine exs (env' := env) (T' := T1) ?_ h
  simp only [exec, mbind, he]
  rfl
theorem ex_if {c : E} {a b ss : List S} {k : Bool} {r : Res Fl} (hc : evalE P call c env T = .ok (.bl k) T1) (h : cond k (execs P call (a ++ ss) env T1) (execs P call (b ++ ss) env T1) = r) : execs P call (.ifs c a b :: ss) env T = r := by
  have app : ∀ (a : List S) (env : Env) (T : Store), execs P call (a ++ ss) env T = match execs P call a env T with
      | .ok (.nx env') T' => execs P call ss env' T'
      | r => r := by
    intro a
    induction a with
    | nil => intro env T; simp only [List.nil_append, execs]; rfl
    | cons s a ih =>
      intro env T
      simp only [List.cons_append, execs, mbind]
      cases exec P call s env T with
      | bad => rfl
      | ok f T' => cases f <;> first | rfl | exact ih _ _
  have e1 : execs P call (.ifs c a b :: ss) env T = match (match k with | true => execs P call a env T1 | false => execs P call b env T1) with
      | .ok (.nx env') T' => execs P call ss env' T'
      | r => r := by
    have hb : ∀ k T, boolD (.bl k) T = .ok k T := fun _ _ => rfl
    simp only [execs, exec, evalT, mbind, hc, hb]
    cases k
    · dsimp only
      cases execs P call b env T1 with
      | bad => rfl
      | ok f T' => cases f <;> rfl
    · dsimp only
      cases execs P call a env T1 with
      | bad => rfl
      | ok f T' => cases f <;> rfl
  rw [e1, ← h]
  cases k
  · exact (app b env T1).symm
  · exact (app a env T1).symm
end
theorem idx_lst {r : List Int} {k v : Int} {T : Store} (h : L2.atI r k = some v) : idxD (.lst (r.map D.int)) (.int k) T = .ok (.int v) T := by
  show (match L2.atI (r.map D.int) k with
        | some d => Res.ok d T
        | none => .bad) = _
  rw [atI_map, h]
  rfl
theorem idx_ref {r : List Int} {n : Nat} {k v : Int} {T : Store} (hT : T[n]? = some (.lst (r.map D.int))) (h : L2.atI r k = some v) : idxD (.ref n) (.int k) T = .ok (.int v) T := by
  have : isSeq T (.ref n) = some (r.map D.int) := by simp only [isSeq, hT]
  unfold idxD
  simp only [this, atI_map, h]
  rfl
theorem rng1_ok {n : Int} {T : Store} (h : smallI n = true) : rng1D (.int n) T = .ok ((upI 0 n.toNat).map D.int, []) T := by
  show okIf (smallI n) _ T = _
  rw [h, ← upTo_map]
  rfl
theorem rng2_ok {m n : Int} {T : Store} (h : (smallI m && smallI n) = true) : rng2D (.int m) (.int n) T = .ok ((upI m (n - m).toNat).map D.int, []) T := by
  show okIf (smallI m && smallI n) _ T = _
  rw [h, ← upTo_map]
  rfl
section
variable {P : Prog} {call : Nat → List D → M D} {env : Env} {T T1 T2 : Store} {x y : D}
theorem ei_rng1 {a : E} {n : Int} (ha : evalE P call a env T = .ok (.int n) T1) (h : smallI n = true) : evalI P call (.rng1 a) env T = .ok ((upI 0 n.toNat).map D.int, []) T1 := by
  simp only [evalI, mbind, ha]
  exact rng1_ok h
theorem ei_rng2 {a b : E} {m n : Int} (ha : evalE P call a env T = .ok (.int m) T1) (hb : evalE P call b env T1 = .ok (.int n) T2) (h : (smallI m && smallI n) = true) : evalI P call (.rng2 a b) env T = .ok ((upI m (n - m).toNat).map D.int, []) T2 := by
  simp only [evalI, mbind, ha, hb]
  exact rng2_ok h
theorem ei_enum {a : E} {r : List Int} (ha : evalE P call a env T = .ok (.lst (r.map D.int)) T1) : evalI P call (.enum a) env T = .ok ((enI 0 r).map dP, []) T1 := by
  simp only [evalI, mbind, ha]
  show Res.ok (enumL 0 (r.map D.int), []) T1 = _
  rw [enumL_map]
theorem ei_zip {a b : E} {r q : List Int} (ha : evalE P call a env T = .ok (.lst (r.map D.int)) T1) (hb : evalE P call b env T1 = .ok (.lst (q.map D.int)) T2) : evalI P call (.zip a b) env T = .ok ((zpI r q).map dP, []) T2 := by
  simp only [evalI, mbind, ha, hb]
  show Res.ok (zipL (r.map D.int) (q.map D.int), []) T2 = _
  rw [zipL_map]
theorem ei_ez {a b : E} {r q : List Int} (ha : evalE P call a env T = .ok (.lst (r.map D.int)) T1) (hb : evalE P call b env T1 = .ok (.lst (q.map D.int)) T2) : evalI P call (.enumZip a b) env T = .ok ((enP 0 (zpI r q)).map dP3, []) T2 := by
  simp only [evalI, mbind, ha, hb]
  show Res.ok (enumL 0 (zipL (r.map D.int) (q.map D.int)), []) T2 = _
  rw [zipL_map, enumP_map]
theorem ei_seq {a : E} {r : List Int} (ha : evalE P call a env T = .ok (.lst (r.map D.int)) T1) : evalI P call (.seq a) env T = .ok (r.map D.int, []) T1 := by
  simp only [evalI, mbind, ha]
  rfl
theorem add_lst {r q : List Int} (h : lim (r.length + q.length) = true) : opD .add (.lst (r.map D.int)) (.lst (q.map D.int)) T = .ok (.lst ((r ++ q).map D.int)) T := by
  show okIf (lim ((r.map D.int).length + (q.map D.int).length)) _ T = _
  rw [List.length_map, List.length_map, h, List.map_append]
  rfl
theorem sum_lst {r : List Int} : bltD .sum [.lst (r.map D.int)] T = .ok (.int r.sum) T := by
  show withI (r.map D.int) (fun bs => .ok (.int bs.sum) T) = _
  unfold withI
  rw [intsD_map]
end
theorem fdiv_ok {a b : Int} {T : Store} (h : (decide (0 < b) && Nat.blt b.natAbs.log2 9000) = true) : opD .fdiv (.int a) (.int b) T = .ok (.int (a / b)) T := by
  show okIf (decide (0 < b) && Nat.blt b.natAbs.log2 9000) _ T = _
  rw [h]
  rfl
theorem mod_ok {a b : Int} {T : Store} (h : decide (0 < b) = true) : opD .mod (.int a) (.int b) T = .ok (.int (a % b)) T := by
  show okIf (decide (0 < b)) _ T = _
  rw [h]
  rfl
end Pz

set_option Elab.async false
set_option linter.all false
set_option maxRecDepth 100000
set_option maxHeartbeats 1000000
/-! P3: what holds behind a run: weakest preconditions over the interpreter. -/
namespace Pz
open PySem
def wp {α : Type} (m : M α) (T : Store) (Q : α → Store → Prop) : Prop := ∃ a T', m T = .ok a T' ∧ Q a T'
theorem wp_ok {α : Type} {m : M α} {T T' : Store} {Q : α → Store → Prop} {a : α} (h : m T = .ok a T') (q : Q a T') : wp m T Q := ⟨a, T', h, q⟩
theorem wp_mono {α : Type} {m : M α} {T : Store} {Q Q' : α → Store → Prop} (h : wp m T Q) (k : ∀ a T', Q a T' → Q' a T') : wp m T Q' := by
  obtain ⟨a, T', e, q⟩ := h
  exact ⟨a, T', e, k a T' q⟩
theorem wp_bind {α β : Type} {x : M α} {f : α → M β} {T : Store} {Q : β → Store → Prop} (h : wp x T fun a T1 => wp (f a) T1 Q) : wp (x >>= f) T Q := by
  obtain ⟨a, T1, e, b, T2, e2, q⟩ := h
  exact ⟨b, T2, by rw [mbind, e]; exact e2, q⟩
theorem wp_pure {α : Type} {a : α} {T : Store} {Q : α → Store → Prop} (q : Q a T) : wp (pure a : M α) T Q := ⟨a, T, rfl, q⟩
theorem wp_le {α : Type} {m m' : M α} {T : Store} {Q : α → Store → Prop} (l : LeM m m') (h : wp m T Q) : wp m' T Q := by
  obtain ⟨a, T', e, q⟩ := h
  exact ⟨a, T', l T a T' e, q⟩
theorem wp_okIf {α : Type} {b : Bool} {a : α} {T : Store} {Q : α → Store → Prop} (hb : b = true) (q : Q a T) : wp (fun T => okIf b a T) T Q := by
  subst hb
  exact ⟨a, T, rfl, q⟩
section
variable {P : Prog} {call : Nat → List D → M D} {env : Env} {T : Store} {Q : D → Store → Prop}
theorem we_non (q : Q .non T) : wp (evalE P call .non env) T Q := by simp only [evalE]; exact wp_pure q
theorem we_bl {b : Bool} (q : Q (.bl b) T) : wp (evalE P call (.bl b) env) T Q := by simp only [evalE]; exact wp_pure q
theorem we_int {i : Int} (q : Q (.int i) T) : wp (evalE P call (.int i) env) T Q := by simp only [evalE]; exact wp_pure q
theorem we_str {x : Str} (q : Q (.str x) T) : wp (evalE P call (.str x) env) T Q := by simp only [evalE]; exact wp_pure q
theorem we_var {i : Nat} {d : D} (h : env[i]? = some (some d)) (q : Q d T) : wp (evalE P call (.var i) env) T Q := by simp only [evalE, h]; exact wp_pure q
theorem we_glo {j : Nat} {p : Str × D} (h : P.cns[j]? = some p) (q : Q p.2 T) : wp (evalE P call (.glo j) env) T Q := by simp only [evalE, h]; exact wp_pure q
theorem we_bin {op : BOp} {a b : E} (h : wp (evalE P call a env) T fun x T1 => wp (evalE P call b env) T1 fun y T2 => wp (opD op x y) T2 Q) : wp (evalE P call (.bin op a b) env) T Q := by
  simp only [evalE]; exact wp_bind (wp_mono h fun _ _ h => wp_bind h)
theorem we_neg {a : E} (h : wp (evalE P call a env) T fun x T1 => wp (negD x) T1 Q) : wp (evalE P call (.neg a) env) T Q := by
  simp only [evalE]; exact wp_bind h
theorem we_not {a : E} (h : wp (evalE P call a env) T fun x T1 => wp (notD x) T1 Q) : wp (evalE P call (.not a) env) T Q := by
  simp only [evalE]; exact wp_bind h
theorem we_cmp {op : COp} {a b : E} (h : wp (evalE P call a env) T fun x T1 => wp (evalE P call b env) T1 fun y T2 => wp (cmpD op x y) T2 Q) : wp (evalE P call (.cmp op a b) env) T Q := by
  simp only [evalE]; exact wp_bind (wp_mono h fun _ _ h => wp_bind h)
theorem we_cmp2 {op op' : COp} {a b c : E} (h : wp (evalE P call a env) T fun x T1 => wp (evalE P call b env) T1 fun y T2 => wp (cmpD op x y) T2 fun r T3 => ∃ k, r = .bl k ∧ (k = true → wp (evalE P call c env) T3 fun z T4 => wp (cmpD op' y z) T4 Q) ∧ (k = false → Q (.bl false) T3)) :
    wp (evalE P call (.cmp2 op op' a b c) env) T Q := by
  simp only [evalE]
  refine wp_bind (wp_mono h fun x T1 h => wp_bind (wp_mono h fun y T2 h => wp_bind (wp_mono h fun r T3 h => ?_)))
  obtain ⟨k, rfl, h1, h2⟩ := h
  refine wp_bind (wp_ok (a := k) (T' := T3) rfl ?_)
  cases k
  · exact wp_pure (h2 rfl)
  · exact wp_bind (h1 rfl)
theorem we_and {a b : E} (h : wp (evalE P call a env) T fun r T1 => ∃ k, r = .bl k ∧ (k = true → wp (evalE P call b env) T1 Q) ∧ (k = false → Q (.bl false) T1)) : wp (evalE P call (.and a b) env) T Q := by
  simp only [evalE]
  refine wp_bind (wp_mono h fun r T1 h => ?_)
  obtain ⟨k, rfl, h1, h2⟩ := h
  refine wp_bind (wp_ok (a := k) (T' := T1) rfl ?_)
  cases k
  · exact wp_pure (h2 rfl)
  · exact h1 rfl
theorem we_or {a b : E} (h : wp (evalE P call a env) T fun r T1 => ∃ k, r = .bl k ∧ (k = false → wp (evalE P call b env) T1 Q) ∧ (k = true → Q (.bl true) T1)) : wp (evalE P call (.or a b) env) T Q := by
  simp only [evalE]
  refine wp_bind (wp_mono h fun r T1 h => ?_)
  obtain ⟨k, rfl, h1, h2⟩ := h
  refine wp_bind (wp_ok (a := k) (T' := T1) rfl ?_)
  cases k
  · exact h1 rfl
  · exact wp_pure (h2 rfl)
theorem we_ite {c a b : E} (h : wp (evalE P call c env) T fun r T1 => ∃ k, r = .bl k ∧ (k = true → wp (evalE P call a env) T1 Q) ∧ (k = false → wp (evalE P call b env) T1 Q)) : wp (evalE P call (.ite c a b) env) T Q := by
  simp only [evalE]
  refine wp_bind (wp_mono h fun r T1 h => ?_)
  obtain ⟨k, rfl, h1, h2⟩ := h
  refine wp_bind (wp_ok (a := k) (T' := T1) rfl ?_)
  cases k
  · exact h2 rfl
  · exact h1 rfl
theorem wes_nil {Q : List D → Store → Prop} (q : Q [] T) : wp (evalEs P call [] env) T Q := by simp only [evalEs]; exact wp_pure q
theorem wes_cons {e : E} {es : List E} {Q : List D → Store → Prop} (h : wp (evalE P call e env) T fun x T1 => wp (evalEs P call es env) T1 fun xs T2 => Q (x :: xs) T2) : wp (evalEs P call (e :: es) env) T Q := by
  simp only [evalEs]; exact wp_bind (wp_mono h fun _ _ h => wp_bind (wp_mono h fun _ _ h => wp_pure h))
theorem wss_nil {fs : List Bool} {Q : List D → Store → Prop} (q : Q [] T) : wp (evalSs P call [] fs env) T Q := by simp only [evalSs]; exact wp_pure q
theorem wss_one {e : E} {es : List E} {fs : List Bool} {Q : List D → Store → Prop} (h : wp (evalE P call e env) T fun x T1 => wp (evalSs P call es fs env) T1 fun xs T2 => Q (x :: xs) T2) : wp (evalSs P call (e :: es) (false :: fs) env) T Q := by
  simp only [evalSs]; exact wp_bind (wp_mono h fun _ _ h => wp_bind (wp_mono h fun _ _ h => wp_pure h))
theorem wss_star {e : E} {es : List E} {fs : List Bool} {Q : List D → Store → Prop} (h : wp (evalE P call e env) T fun x T1 => ∃ ys, isSeq T1 x = some ys ∧ wp (evalSs P call es fs env) T1 fun xs T2 => Q (ys ++ xs) T2) : wp (evalSs P call (e :: es) (true :: fs) env) T Q := by
  simp only [evalSs]
  refine wp_bind (wp_mono h fun x T1 h => ?_)
  obtain ⟨ys, e, h⟩ := h
  exact wp_bind (wp_ok (a := ys) (T' := T1) (by unfold seqD; rw [e]) (wp_bind (wp_mono h fun _ _ h => wp_pure h)))
theorem we_tup {es : List E} (h : wp (evalEs P call es env) T fun ds T1 => lim ds.length = true ∧ Q (.tup ds) T1) : wp (evalE P call (.tup es) env) T Q := by
  simp only [evalE]; exact wp_bind (wp_mono h fun _ _ h => wp_okIf h.1 h.2)
theorem we_lst {es : List E} (h : wp (evalEs P call es env) T fun ds T1 => lim ds.length = true ∧ Q (.lst ds) T1) : wp (evalE P call (.lst es) env) T Q := by
  simp only [evalE]; exact wp_bind (wp_mono h fun _ _ h => wp_okIf h.1 h.2)
theorem we_tupS {fs : List Bool} {es : List E} (h : wp (evalSs P call es fs env) T fun ds T1 => lim ds.length = true ∧ Q (.tup ds) T1) : wp (evalE P call (.tupS fs es) env) T Q := by
  simp only [evalE]; exact wp_bind (wp_mono h fun _ _ h => wp_okIf h.1 h.2)
theorem we_labS {fs : List Bool} {es : List E} (h : wp (evalSs P call es fs env) T fun ds T1 => lim ds.length = true ∧ Q (.lab ds) T1) : wp (evalE P call (.labS fs es) env) T Q := by
  simp only [evalE]; exact wp_bind (wp_mono h fun _ _ h => wp_okIf h.1 h.2)
theorem we_lstS {fs : List Bool} {es : List E} (h : wp (evalSs P call es fs env) T fun ds T1 => lim ds.length = true ∧ Q (.lst ds) T1) : wp (evalE P call (.lstS fs es) env) T Q := by
  simp only [evalE]; exact wp_bind (wp_mono h fun _ _ h => wp_okIf h.1 h.2)
theorem we_idx {a b : E} (h : wp (evalE P call a env) T fun x T1 => wp (evalE P call b env) T1 fun y T2 => wp (idxD x y) T2 Q) : wp (evalE P call (.idx a b) env) T Q := by
  simp only [evalE]; exact wp_bind (wp_mono h fun _ _ h => wp_bind h)
theorem wo_none {Q : Option Int → Store → Prop} (q : Q none T) : wp (evalO P call none env) T Q := by simp only [evalO]; exact wp_pure q
theorem wo_some {e : E} {Q : Option Int → Store → Prop} (h : wp (evalE P call e env) T fun x T1 => ∃ i, x = .int i ∧ Q (some i) T1) : wp (evalO P call (some e) env) T Q := by
  simp only [evalO]
  refine wp_bind (wp_mono h fun x T1 h => ?_)
  obtain ⟨i, rfl, q⟩ := h
  exact wp_pure q
theorem we_slc {a : E} {lo hi : Option E} (h : wp (evalE P call a env) T fun x T1 => wp (evalO P call lo env) T1 fun l T2 => wp (evalO P call hi env) T2 fun r T3 => wp (slcD x l r) T3 Q) : wp (evalE P call (.slc a lo hi) env) T Q := by
  simp only [evalE]; exact wp_bind (wp_mono h fun _ _ h => wp_bind (wp_mono h fun _ _ h => wp_bind h))
theorem we_call {f : Nat} {args : List E} (h : wp (evalEs P call args env) T fun ds T1 => wp (call f ds) T1 Q) : wp (evalE P call (.call f args) env) T Q := by
  simp only [evalE]; exact wp_bind h
theorem we_blt {b : Blt} {args : List E} (h : wp (evalEs P call args env) T fun ds T1 => wp (bltD b ds) T1 Q) : wp (evalE P call (.blt b args) env) T Q := by
  simp only [evalE]; exact wp_bind h
theorem we_isi {a : E} {ts : List Ty} (h : wp (evalE P call a env) T fun x T1 => wp (isiD x ts) T1 Q) : wp (evalE P call (.isi a ts) env) T Q := by
  simp only [evalE]; exact wp_bind h
theorem we_mth {m : Mt} {o : E} {args : List E} (h : wp (evalE P call o env) T fun x T1 => tyOk m x T1 = true ∧ wp (evalEs P call args env) T1 fun ds T2 => wp (mthD m x ds) T2 Q) : wp (evalE P call (.mth m o args) env) T Q := by
  simp only [evalE]
  exact wp_bind (wp_mono h fun _ _ h => wp_bind (wp_okIf h.1 (wp_bind h.2)))
theorem we_dict0 {t : Bool} (q : Q (.ref T.length) (T ++ [.dic t []])) : wp (evalE P call (.dict0 t) env) T Q := by simp only [evalE]; exact wp_ok rfl q
theorem we_sset {a : E} (h : wp (evalE P call a env) T fun x T1 => wp (ssetD x) T1 Q) : wp (evalE P call (.sset a) env) T Q := by
  simp only [evalE]; exact wp_bind h
theorem we_mut {a : E} (h : wp (evalE P call a env) T fun x T1 => ∃ xs, x = .lst xs ∧ Q (.ref T1.length) (T1 ++ [.lst xs])) : wp (evalE P call (.mut a) env) T Q := by
  simp only [evalE]
  refine wp_bind (wp_mono h fun x T1 h => ?_)
  obtain ⟨xs, rfl, q⟩ := h
  exact wp_ok rfl q
theorem we_frz {a : E} (h : wp (evalE P call a env) T fun x T1 => wp (frzD x) T1 Q) : wp (evalE P call (.frz a) env) T Q := by
  simp only [evalE]; exact wp_bind h
theorem we_att {a : E} {f : Str} (h : wp (evalE P call a env) T fun x T1 => wp (attD P call x f) T1 Q) : wp (evalE P call (.att a f) env) T Q := by
  simp only [evalE]; exact wp_bind h
theorem we_meth {a : E} {m : Str} {args : List E} (h : wp (evalE P call a env) T fun x T1 => wp (methOf P x m) T1 fun g T2 => wp (evalEs P call args env) T2 fun ds T3 => wp (callF P call g (x :: ds)) T3 Q) : wp (evalE P call (.meth a m args) env) T Q := by
  simp only [evalE]; exact wp_bind (wp_mono h fun _ _ h => wp_bind (wp_mono h fun _ _ h => wp_bind h))
theorem we_make {z : Bool} {c : Str} {args : List E} (h : wp (evalEs P call args env) T fun ds T1 => wp (makeD P call z c ds) T1 Q) : wp (evalE P call (.make z c args) env) T Q := by
  simp only [evalE]; exact wp_bind h
theorem we_stat {c m : Str} {args : List E} {g : Nat} (hg : statOf P c m = some g) (h : wp (evalEs P call args env) T fun ds T1 => wp (callF P call g ds) T1 Q) : wp (evalE P call (.stat c m args) env) T Q := by
  simp only [evalE, hg]; exact wp_bind h
theorem we_callO {a : E} {args : List E} (h : wp (evalE P call a env) T fun x T1 => wp (evalEs P call args env) T1 fun ds T2 => wp (methOf P x "__call__") T2 fun g T3 => wp (callF P call g (x :: ds)) T3 Q) : wp (evalE P call (.callO a args) env) T Q := by
  simp only [evalE]; exact wp_bind (wp_mono h fun _ _ h => wp_bind (wp_mono h fun _ _ h => wp_bind h))
theorem we_labT {a : E} (h : wp (evalE P call a env) T fun x T1 => wp (labTD x) T1 Q) : wp (evalE P call (.labT a) env) T Q := by
  simp only [evalE]; exact wp_bind h
theorem we_itemsL {a : E} (h : wp (evalE P call a env) T fun x T1 => wp (itemsD x) T1 Q) : wp (evalE P call (.itemsL a) env) T Q := by
  simp only [evalE]; exact wp_bind h
theorem we_sortedK {a : E} (h : wp (evalE P call a env) T fun x T1 => wp (sortedKD x) T1 Q) : wp (evalE P call (.sortedK a) env) T Q := by
  simp only [evalE]; exact wp_bind h
theorem we_minT {a : E} (h : wp (evalE P call a env) T fun x T1 => wp (minTD x) T1 Q) : wp (evalE P call (.minT a) env) T Q := by
  simp only [evalE]; exact wp_bind h
theorem we_maxT {a : E} (h : wp (evalE P call a env) T fun x T1 => wp (maxTD x) T1 Q) : wp (evalE P call (.maxT a) env) T Q := by
  simp only [evalE]; exact wp_bind h
theorem we_tupStr {a : E} (h : wp (evalE P call a env) T fun x T1 => wp (tupStrD x) T1 Q) : wp (evalE P call (.tupStr a) env) T Q := by
  simp only [evalE]; exact wp_bind h
/-! ### what is walked -/
theorem wi_seq {a : E} {Q : Walk → Store → Prop} (h : wp (evalE P call a env) T fun x T1 => wp (seqWalk x) T1 Q) : wp (evalI P call (.seq a) env) T Q := by simp only [evalI]; exact wp_bind h
theorem wi_rng1 {a : E} {Q : Walk → Store → Prop} (h : wp (evalE P call a env) T fun x T1 => wp (rng1D x) T1 Q) : wp (evalI P call (.rng1 a) env) T Q := by simp only [evalI]; exact wp_bind h
theorem wi_rng2 {a b : E} {Q : Walk → Store → Prop} (h : wp (evalE P call a env) T fun x T1 => wp (evalE P call b env) T1 fun y T2 => wp (rng2D x y) T2 Q) : wp (evalI P call (.rng2 a b) env) T Q := by
  simp only [evalI]; exact wp_bind (wp_mono h fun _ _ h => wp_bind h)
theorem wi_enum {a : E} {Q : Walk → Store → Prop} (h : wp (evalE P call a env) T fun x T1 => wp (enumWalk x) T1 Q) : wp (evalI P call (.enum a) env) T Q := by simp only [evalI]; exact wp_bind h
theorem wi_zip {a b : E} {Q : Walk → Store → Prop} (h : wp (evalE P call a env) T fun x T1 => wp (evalE P call b env) T1 fun y T2 => wp (zipWalk x y) T2 Q) : wp (evalI P call (.zip a b) env) T Q := by
  simp only [evalI]; exact wp_bind (wp_mono h fun _ _ h => wp_bind h)
theorem wc_none {Q : Bool → Store → Prop} (q : Q true T) : wp (evalC P call none env) T Q := by simp only [evalC]; exact wp_pure q
theorem wc_some {e : E} {Q : Bool → Store → Prop} (h : wp (evalE P call e env) T fun x T1 => ∃ k, x = .bl k ∧ Q k T1) : wp (evalC P call (some e) env) T Q := by
  simp only [evalC]
  refine wp_bind (wp_mono h fun x T1 h => ?_)
  obtain ⟨k, rfl, q⟩ := h
  exact wp_ok rfl q
/-! ### comprehensions -/
theorem compL_wp {g : Guard} {f : D → M (Option D)} (J : List D → List D → Store → Prop) {R : List D → Store → Prop}
    (hs : ∀ x xs acc T, J (x :: xs) acc T → stays g T = true ∧ wp (f x) T fun o T1 => match o with
      | some y => Nat.blt acc.length sizeLine = true ∧ J xs (acc ++ [y]) T1
      | none => J xs acc T1)
    (he : ∀ acc T, J [] acc T → stays g T = true ∧ R acc T) : ∀ (xs acc : List D) (T : Store), J xs acc T → wp (compL g f xs acc.reverse) T R
  | [], acc, T, h => by
    obtain ⟨h1, h2⟩ := he acc T h
    refine ⟨acc, T, ?_, h2⟩
    simp only [compL, h1, List.reverse_reverse, okIf]
  | x :: xs, acc, T, h => by
    obtain ⟨h1, o, T1, e, h2⟩ := hs x xs acc T h
    cases o with
    | none =>
      obtain ⟨a, T', e2, q⟩ := compL_wp J hs he xs acc T1 h2
      exact ⟨a, T', by simp only [compL, h1, e]; exact e2, q⟩
    | some y =>
      obtain ⟨hl, h2⟩ := h2
      obtain ⟨a, T', e2, q⟩ := compL_wp J hs he xs (acc ++ [y]) T1 h2
      refine ⟨a, T', ?_, q⟩
      simp only [compL, h1, e, List.length_reverse, hl]
      rw [List.reverse_append] at e2
      exact e2
/-- a comprehension, by an invariant: what is left, what was made, the store -/
theorem we_comp {own : List Nat} {t : Tg} {it : I} {c : Option E} {e : E} (h : wp (evalI P call it env) T fun w T1 => ∃ J : List D → List D → Store → Prop, J w.1 [] T1 ∧
      (∀ x xs acc T2, J (x :: xs) acc T2 → stays w.2 T2 = true ∧ ∃ env1, bindT t x (wipeE env own) = some env1 ∧ wp (evalC P call c env1) T2 fun k T3 => (k = true → wp (evalE P call e env1) T3 fun y T4 => Nat.blt acc.length sizeLine = true ∧ J xs (acc ++ [y]) T4) ∧ (k = false → J xs acc T3)) ∧
      ∀ acc T2, J [] acc T2 → stays w.2 T2 = true ∧ Q (.lst acc) T2) : wp (evalE P call (.comp own t it c e) env) T Q := by
  simp only [evalE]
  refine wp_bind (wp_mono h fun w T1 h => ?_)
  obtain ⟨J, h0, hs, he⟩ := h
  refine wp_bind (wp_mono (compL_wp J (fun x xs acc T hJ => ?_) (R := fun acc T => Q (.lst acc) T) he w.1 [] T1 h0) fun ys T2 q => wp_pure q)
  obtain ⟨h1, env1, hb, h2⟩ := hs x xs acc T hJ
  refine ⟨h1, ?_⟩
  simp only [hb]
  refine wp_bind (wp_mono h2 fun k T3 h3 => ?_)
  cases k
  · exact wp_pure (h3.2 rfl)
  · exact wp_bind (wp_mono (h3.1 rfl) fun y T4 h4 => wp_pure h4)
/-- a comprehension that leaves the store -/
theorem we_map {α : Type} {own : List Nat} {t : Tg} {it : I} {e : E} (mk : α → D) (out : α → D) (xs : List α) {g : Guard} {T1 : Store} (hi : wp (evalI P call it env) T fun w T' => w = (xs.map mk, g) ∧ T' = T1) (hg : stays g T1 = true) (hl : xs.length ≤ sizeLine)
    (hf : ∀ x ∈ xs, ∃ env1, bindT t (mk x) (wipeE env own) = some env1 ∧ wp (evalE P call e env1) T1 fun y T' => y = out x ∧ T' = T1) (q : Q (.lst (xs.map out)) T1) : wp (evalE P call (.comp own t it none e) env) T Q := by
  refine we_comp (wp_mono hi fun w T' h => ?_)
  obtain ⟨rfl, rfl⟩ := h
  refine ⟨fun rest acc T2 => T2 = T' ∧ ∃ l r, xs = l ++ r ∧ rest = r.map mk ∧ acc = l.map out, ⟨rfl, [], xs, rfl, rfl, rfl⟩, ?_, ?_⟩
  · rintro x rest acc T2 ⟨rfl, l, r, rfl, hr, rfl⟩
    cases r with
    | nil => cases hr
    | cons a r =>
      cases hr
      obtain ⟨env1, hb, h1⟩ := hf a (by simp)
      refine ⟨hg, env1, hb, wc_none ⟨fun _ => wp_mono h1 fun y T3 h => ?_, fun z => by cases z⟩⟩
      obtain ⟨rfl, rfl⟩ := h
      refine ⟨?_, rfl, l ++ [a], r, by simp, rfl, by simp⟩
      rw [Nat.blt_eq, List.length_map]
      simp only [List.length_append, List.length_cons] at hl
      omega
  · rintro acc T2 ⟨rfl, l, r, rfl, hr, rfl⟩
    cases r with
    | nil => exact ⟨hg, by simpa using q⟩
    | cons a r => cases hr
/-- one with a condition -/
theorem we_filter {α : Type} {own : List Nat} {t : Tg} {it : I} {c e : E} (mk : α → D) (p : α → Bool) (out : α → D) (xs : List α) {g : Guard} {T1 : Store} (hi : wp (evalI P call it env) T fun w T' => w = (xs.map mk, g) ∧ T' = T1) (hg : stays g T1 = true) (hl : xs.length ≤ sizeLine)
    (hf : ∀ x ∈ xs, ∃ env1, bindT t (mk x) (wipeE env own) = some env1 ∧ wp (evalE P call c env1) T1 fun y T' => y = .bl (p x) ∧ T' = T1 ∧ (p x = true → wp (evalE P call e env1) T1 fun y T' => y = out x ∧ T' = T1)) (q : Q (.lst ((xs.filter p).map out)) T1) : wp (evalE P call (.comp own t it (some c) e) env) T Q := by
  refine we_comp (wp_mono hi fun w T' h => ?_)
  obtain ⟨rfl, rfl⟩ := h
  refine ⟨fun rest acc T2 => T2 = T' ∧ ∃ l r, xs = l ++ r ∧ rest = r.map mk ∧ acc = (l.filter p).map out, ⟨rfl, [], xs, rfl, rfl, rfl⟩, ?_, ?_⟩
  · rintro x rest acc T2 ⟨rfl, l, r, rfl, hr, rfl⟩
    cases r with
    | nil => cases hr
    | cons a r =>
      cases hr
      obtain ⟨env1, hb, h1⟩ := hf a (by simp)
      refine ⟨hg, env1, hb, wc_some (wp_mono h1 fun y T3 h => ?_)⟩
      obtain ⟨rfl, rfl, h2⟩ := h
      refine ⟨_, rfl, fun hp => wp_mono (h2 hp) fun y T3 h => ?_, fun hp => ⟨rfl, l ++ [a], r, by simp, rfl, by simp [hp]⟩⟩
      obtain ⟨rfl, rfl⟩ := h
      refine ⟨?_, rfl, l ++ [a], r, by simp, rfl, by simp [hp]⟩
      rw [Nat.blt_eq, List.length_map]
      have := List.length_filter_le p l
      simp only [List.length_append, List.length_cons] at hl
      omega
  · rintro acc T2 ⟨rfl, l, r, rfl, hr, rfl⟩
    cases r with
    | nil => exact ⟨hg, by simpa using q⟩
    | cons a r => cases hr
/-! ### statements -/
variable {R : Fl → Store → Prop}
theorem wp_cat {a ss : List S} (h : wp (execs P call (a ++ ss) env) T R) : wp (execs P call a env) T fun fl T1 => match fl with
    | .nx env' => wp (execs P call ss env') T1 R
    | fl => R fl T1 := by
  induction a generalizing env T with
  | nil => simp only [List.nil_append] at h; exact wp_ok (by simp only [execs]; rfl) h
  | cons s a ih =>
    obtain ⟨fl, T1, e, q⟩ := h
    simp only [List.cons_append, execs, mbind] at e
    cases hx : exec P call s env T with
    | bad => rw [hx] at e; cases e
    | ok f T2 =>
      rw [hx] at e
      cases f with
      | nx env' =>
        obtain ⟨f2, T3, e2, q2⟩ := ih (env := env') (T := T2) ⟨fl, T1, e, q⟩
        exact ⟨f2, T3, by simp only [execs, mbind, hx]; exact e2, q2⟩
      | rt d => cases e; exact ⟨_, _, by simp only [execs, mbind, hx]; rfl, q⟩
      | bk d => cases e; exact ⟨_, _, by simp only [execs, mbind, hx]; rfl, q⟩
      | ct d => cases e; exact ⟨_, _, by simp only [execs, mbind, hx]; rfl, q⟩
theorem ws_seq {s : S} {ss : List S} (h : wp (exec P call s env) T fun fl T1 => match fl with
    | .nx env' => wp (execs P call ss env') T1 R
    | fl => R fl T1) : wp (execs P call (s :: ss) env) T R := by
  simp only [execs]
  refine wp_bind (wp_mono h fun fl T1 h => ?_)
  cases fl with
  | nx env' => exact h
  | rt d => exact wp_pure h
  | bk d => exact wp_pure h
  | ct d => exact wp_pure h
theorem ws_nil (q : R (.nx env) T) : wp (execs P call [] env) T R := by simp only [execs]; exact wp_pure q
theorem ws_asg {t : Tg} {e : E} {ss : List S} (h : wp (evalE P call e env) T fun x T1 => ∃ env', bindT t x env = some env' ∧ wp (execs P call ss env') T1 R) : wp (execs P call (.asg t e :: ss) env) T R := by
  refine ws_seq ?_
  simp only [exec]
  refine wp_bind (wp_mono h fun x T1 h => ?_)
  obtain ⟨env', hb, h⟩ := h
  rw [hb]
  exact wp_pure h
theorem ws_par2 {i j : Nat} {a b : E} {ss : List S} (h : wp (evalE P call a env) T fun x T1 => wp (evalE P call b env) T1 fun y T2 => wp (execs P call ss ((env.set i (some x)).set j (some y))) T2 R) : wp (execs P call (.par2 i j a b :: ss) env) T R := by
  refine ws_seq ?_
  simp only [exec]
  exact wp_bind (wp_mono h fun x T1 h => wp_bind (wp_mono h fun y T2 h => wp_pure h))
theorem ws_ret {e : E} {ss : List S} (h : wp (evalE P call e env) T fun x T1 => R (.rt x) T1) : wp (execs P call (.ret e :: ss) env) T R := by
  refine ws_seq ?_
  simp only [exec]
  exact wp_bind (wp_mono h fun x T1 h => wp_pure h)
theorem ws_expr {e : E} {ss : List S} (h : wp (evalE P call e env) T fun x T1 => wp (execs P call ss env) T1 R) : wp (execs P call (.expr e :: ss) env) T R := by
  refine ws_seq ?_
  simp only [exec]
  exact wp_bind (wp_mono h fun x T1 h => wp_pure h)
theorem ws_idx {o i e : E} {ss : List S} (h : wp (evalE P call e env) T fun v T1 => wp (evalE P call o env) T1 fun x T2 => wp (evalE P call i env) T2 fun k T3 => wp (setIdx x k v) T3 fun _ T4 => wp (execs P call ss env) T4 R) : wp (execs P call (.asgIdx o i e :: ss) env) T R := by
  refine ws_seq ?_
  simp only [exec]
  exact wp_bind (wp_mono h fun _ _ h => wp_bind (wp_mono h fun _ _ h => wp_bind (wp_mono h fun _ _ h => wp_bind (wp_mono h fun _ _ h => wp_pure h))))
theorem ws_asgF {o e : E} {f : Str} {ss : List S} (h : wp (evalE P call e env) T fun v T1 => wp (evalE P call o env) T1 fun x T2 => wp (setF P x f v) T2 fun _ T4 => wp (execs P call ss env) T4 R) : wp (execs P call (.asgF o f e :: ss) env) T R := by
  refine ws_seq ?_
  simp only [exec]
  exact wp_bind (wp_mono h fun _ _ h => wp_bind (wp_mono h fun _ _ h => wp_bind (wp_mono h fun _ _ h => wp_pure h)))
theorem ws_parF {o : E} {es : List E} {fs : List Str} {ss : List S} (h : wp (evalEs P call es env) T fun vs T1 => wp (evalE P call o env) T1 fun x T2 => wp (setFs P x fs vs) T2 fun _ T4 => wp (execs P call ss env) T4 R) : wp (execs P call (.parF o fs es :: ss) env) T R := by
  refine ws_seq ?_
  simp only [exec]
  exact wp_bind (wp_mono h fun _ _ h => wp_bind (wp_mono h fun _ _ h => wp_bind (wp_mono h fun _ _ h => wp_pure h)))
theorem ws_if {c : E} {a b ss : List S} (h : wp (evalE P call c env) T fun r T1 => ∃ k, r = .bl k ∧ (k = true → wp (execs P call (a ++ ss) env) T1 R) ∧ (k = false → wp (execs P call (b ++ ss) env) T1 R)) : wp (execs P call (.ifs c a b :: ss) env) T R := by
  refine ws_seq ?_
  simp only [exec, evalT]
  refine wp_bind (wp_bind (wp_mono h fun r T1 h => ?_))
  obtain ⟨k, rfl, h1, h2⟩ := h
  refine wp_ok (a := k) (T' := T1) rfl ?_
  cases k
  · exact wp_cat (h2 rfl)
  · exact wp_cat (h1 rfl)
theorem forL_wp {g : Guard} {f : D → Env → M Fl} (J : List D → Env → Store → Prop)
    (hs : ∀ x xs env T, J (x :: xs) env T → stays g T = true ∧ wp (f x env) T fun fl T1 => match fl with
      | .nx e => J xs e T1
      | .ct e => J xs e T1
      | .bk e => R (.nx e) T1
      | .rt d => R (.rt d) T1)
    (he : ∀ env T, J [] env T → stays g T = true ∧ R (.nx env) T) : ∀ (xs : List D) (env : Env) (T : Store), J xs env T → wp (forL g f xs env) T R
  | [], env, T, h => by
    obtain ⟨h1, h2⟩ := he env T h
    refine ⟨_, T, ?_, h2⟩
    simp only [forL, h1, okIf]
  | x :: xs, env, T, h => by
    obtain ⟨h1, fl, T1, e, h2⟩ := hs x xs env T h
    cases fl with
    | nx e' =>
      obtain ⟨a, T', e2, q⟩ := forL_wp J hs he xs e' T1 h2
      exact ⟨a, T', by simp only [forL, h1, e]; exact e2, q⟩
    | ct e' =>
      obtain ⟨a, T', e2, q⟩ := forL_wp J hs he xs e' T1 h2
      exact ⟨a, T', by simp only [forL, h1, e]; exact e2, q⟩
    | bk e' => exact ⟨_, T1, by simp only [forL, h1, e], h2⟩
    | rt d => exact ⟨_, T1, by simp only [forL, h1, e], h2⟩
/-- a loop, by an invariant: what is left, the names, the store -/
theorem ws_loop {t : Tg} {it : I} {body ss : List S} (h : wp (evalI P call it env) T fun w T1 => ∃ J : List D → Env → Store → Prop, J w.1 env T1 ∧
      (∀ x xs env2 T2, J (x :: xs) env2 T2 → stays w.2 T2 = true ∧ ∃ env3, bindT t x env2 = some env3 ∧ wp (execs P call body env3) T2 fun fl T3 => match fl with
        | .nx e => J xs e T3
        | .ct e => J xs e T3
        | .bk e => wp (execs P call ss e) T3 R
        | .rt d => R (.rt d) T3) ∧
      ∀ env2 T2, J [] env2 T2 → stays w.2 T2 = true ∧ wp (execs P call ss env2) T2 R) : wp (execs P call (.loop t it body :: ss) env) T R := by
  refine ws_seq ?_
  simp only [exec]
  refine wp_bind (wp_mono h fun w T1 h => ?_)
  obtain ⟨J, h0, hs, he⟩ := h
  refine forL_wp J (fun x xs env2 T2 hJ => ?_) (fun env2 T2 hJ => he env2 T2 hJ) w.1 env T1 h0
  obtain ⟨h1, env3, hb, h2⟩ := hs x xs env2 T2 hJ
  refine ⟨h1, ?_⟩
  simp only [hb]
  exact h2
/-! ### calls -/
theorem wp_fn {n f : Nat} {fn : Fn} {d0 : D} {ds : List D} (hf : P.fns[f]? = some fn) (hl : (Nat.beq (d0 :: ds).length fn.ps.length && Nat.ble fn.ps.length fn.N.length) = true)
    (h : wp (execs P (callN P n) fn.body ((d0 :: ds).map some ++ List.replicate (fn.N.length - (d0 :: ds).length) none)) T fun fl T' => match fl with
      | .rt d => Q d (gcS fn.gc T T' d)
      | .nx _ => Q .non (gcS fn.gc T T' .non)
      | _ => False) : wp (callN P (n + 1) f (d0 :: ds)) T Q := by
  obtain ⟨fl, T', e, q⟩ := h
  show wp (runFn P (callN P n) f (d0 :: ds)) T Q
  unfold runFn
  rw [hf]
  simp only [hl]
  cases fl with
  | rt d => exact ⟨_, _, by dsimp only; rw [e]; rfl, q⟩
  | nx _ => exact ⟨_, _, by dsimp only; rw [e]; rfl, q⟩
  | bk _ => exact q.elim
  | ct _ => exact q.elim
def isT : Res D → Bool
  | .ok (.bl true) _ => true
  | _ => false
/-- a def without parameters, run by the kernel -/
theorem wp_fn0 {n f : Nat} (h : isT (callN P n f [] []) = true) : wp (callN P n f []) T fun r T' => r = .bl true ∧ T' = T := by
  cases n with
  | zero => cases h
  | succ n =>
    have h : isT (runFn P (callN P n) f [] []) = true := h
    show wp (runFn P (callN P n) f []) T _
    unfold runFn at h ⊢
    cases hf : P.fns[f]? with
    | none => rw [hf] at h; cases h
    | some fn =>
      rw [hf] at h
      simp only at h ⊢
      cases hl : Nat.beq ([] : List D).length fn.ps.length && Nat.ble fn.ps.length fn.N.length with
      | false => rw [hl] at h; cases h
      | true =>
        rw [hl] at h
        simp only at h ⊢
        cases he : execs P (callN P n) fn.body (([] : List D).map some ++ List.replicate (fn.N.length - ([] : List D).length) none) [] with
        | bad => rw [he] at h; cases h
        | ok r T1 =>
          rw [he] at h
          cases r with
          | rt d =>
            cases d <;> first | (cases h; done) | skip
            · rename_i b
              cases b
              · cases h
              · exact ⟨.bl true, T, rfl, rfl, rfl⟩
            all_goals (exfalso; revert h; simp only [endFn0, okIf]; split <;> exact fun h => by cases h)
          | nx _ => cases h
          | bk _ => cases h
          | ct _ => cases h
theorem wp_callF {g : Nat} {fn : Fn} {ds : List D} (hf : P.fns[g]? = some fn) (h : wp (call g (fillD fn ds)) T Q) : wp (callF P call g ds) T Q := by
  unfold callF
  rw [hf]
  exact h
theorem wp_fld {x : D} {f c : Str} {ns : List Str} {fs : List D} {cd : ClsD} {d : D} (h1 : objOf T x = some (c, ns, fs)) (h2 : clsIn c P.cls = some cd) (h3 : hasS f cd.flds = true) (h4 : fldOf f ns fs = some d) (q : Q d T) : wp (attD P call x f) T Q :=
  wp_ok (by unfold attD; simp only [h1, h2, h3, h4]) q
theorem wp_prp {x : D} {f c : Str} {ns : List Str} {fs : List D} {cd : ClsD} {g : Nat} (h1 : objOf T x = some (c, ns, fs)) (h2 : clsIn c P.cls = some cd) (h3 : hasS f cd.flds = false) (h4 : lkS f cd.prps = some g) (h : wp (call g [x]) T Q) : wp (attD P call x f) T Q := by
  obtain ⟨d, T', e, q⟩ := h
  exact ⟨d, T', by unfold attD; simp only [h1, h2, h3, h4]; exact e, q⟩
theorem wp_methOf {x : D} {m c : Str} {ns : List Str} {fs : List D} {cd : ClsD} {g : Nat} {Q : Nat → Store → Prop} (h1 : objOf T x = some (c, ns, fs)) (h2 : clsIn c P.cls = some cd) (h3 : hasS m ns = false) (h4 : lkS m cd.mths = some g) (q : Q g T) : wp (methOf P x m) T Q :=
  wp_ok (by unfold methOf; simp only [h1, h2, h3, h4]) q
theorem wp_make {c : Str} {ds : List D} {cd : ClsD} {g : Nat} {fn : Fn} (h1 : clsIn c P.cls = some cd) (h2 : lkS "__init__" cd.mths = some g) (h3 : P.fns[g]? = some fn)
    (h : wp (call g (fillD fn (.ref T.length :: ds))) (T ++ [.obj c [] []]) fun r T' => r = .non ∧ ∃ c' ns fs X, T' = T ++ .obj c' ns fs :: X ∧ closL T.length fs = true ∧ Q (.obj c' ns fs) T) : wp (makeD P call true c ds) T Q := by
  obtain ⟨r, T', e, rfl, c', ns, fs, X, rfl, hc, q⟩ := h
  refine ⟨_, _, ?_, q⟩
  unfold makeD
  simp only [h1, h2]
  rw [show callF P call g (.ref T.length :: ds) (T ++ [.obj c [] []]) = .ok .non (T ++ .obj c' ns fs :: X) by unfold callF; rw [h3]; exact e]
  have h5 : (T ++ .obj c' ns fs :: X)[T.length]? = some (.obj c' ns fs) := by simp
  simp only [h5]
  have h6 : (T ++ .obj c' ns fs :: X).set T.length .dead = T ++ (.dead :: X) := by simp
  rw [h6, gc_app (show closD T.length (.obj c' ns fs) = true from by unfold closD; exact hc)]
end
end Pz

set_option Elab.async false
set_option linter.all false
set_option maxRecDepth 100000
set_option maxHeartbeats 1000000
/-! P4: runs by rewriting. -/
namespace Pz
open PySem
theorem wb {α β : Type} {x : M α} {f : α → M β} {T : Store} {Q : β → Store → Prop} : wp (x >>= f) T Q = wp x T fun a T1 => wp (f a) T1 Q := by
  apply propext
  constructor
  · rintro ⟨b, T2, e, q⟩
    rw [mbind] at e
    cases h : x T with
    | bad => rw [h] at e; cases e
    | ok a T1 => rw [h] at e; exact ⟨a, T1, h, b, T2, e, q⟩
  · exact wp_bind
theorem wpu {α : Type} {a : α} {T : Store} {Q : α → Store → Prop} : wp (pure a : M α) T Q = Q a T := by
  apply propext
  constructor
  · rintro ⟨b, T2, e, q⟩
    cases e
    exact q
  · exact wp_pure
theorem wfl {α : Type} {T : Store} {Q : α → Store → Prop} : wp (fail : M α) T Q = False := by
  apply propext
  constructor
  · rintro ⟨b, T2, e, q⟩
    cases e
  · exact False.elim
theorem wif {α : Type} {b : Bool} {a : α} {T : Store} {Q : α → Store → Prop} : wp (fun T => okIf b a T) T Q = (b = true ∧ Q a T) := by
  apply propext
  constructor
  · rintro ⟨c, T2, e, q⟩
    cases b
    · cases e
    · cases e; exact ⟨rfl, q⟩
  · rintro ⟨rfl, q⟩
    exact ⟨a, T, rfl, q⟩
theorem wif2 {α : Type} {b : Store → Bool} {a : α} {T : Store} {Q : α → Store → Prop} : wp (fun T => okIf (b T) a T) T Q = (b T = true ∧ Q a T) := by
  apply propext
  constructor
  · rintro ⟨c, T2, e, q⟩
    dsimp only at e
    cases h : b T
    · rw [h] at e; cases e
    · rw [h] at e; cases e; exact ⟨rfl, q⟩
  · rintro ⟨h, q⟩
    exact ⟨a, T, by dsimp only; rw [h]; rfl, q⟩
theorem wbo {x : D} {T : Store} {Q : Bool → Store → Prop} : wp (boolD x) T Q = ∃ k, x = .bl k ∧ Q k T := by
  apply propext
  constructor
  · rintro ⟨b, T2, e, q⟩
    cases x <;> first | (cases e; done) | skip
    cases e
    exact ⟨_, rfl, q⟩
  · rintro ⟨k, rfl, q⟩
    exact ⟨k, T, rfl, q⟩
/-- a branch -/
def br (x : D) (A B : Prop) : Prop := ∃ k, x = .bl k ∧ (k = true → A) ∧ (k = false → B)
theorem br_eq {x : D} {T : Store} {α : Type} {Q : α → Store → Prop} {f : Bool → M α} : wp (boolD x >>= f) T Q = br x (wp (f true) T Q) (wp (f false) T Q) := by
  rw [wb, wbo]
  apply propext
  constructor
  · rintro ⟨k, rfl, q⟩
    refine ⟨k, rfl, fun h => ?_, fun h => ?_⟩ <;> (subst h; exact q)
  · rintro ⟨k, rfl, h1, h2⟩
    refine ⟨k, rfl, ?_⟩
    cases k
    · exact h2 rfl
    · exact h1 rfl
theorem br_bl {k : Bool} {A B : Prop} : br (.bl k) A B = ((k = true → A) ∧ (k = false → B)) := by
  apply propext
  constructor
  · rintro ⟨j, e, h⟩
    cases e
    exact h
  · exact fun h => ⟨k, rfl, h⟩
theorem wnew {c : Cell} {T : Store} {Q : D → Store → Prop} : wp (newCell c) T Q = Q (.ref T.length) (T ++ [c]) := by
  apply propext
  constructor
  · rintro ⟨b, T2, e, q⟩
    cases e
    exact q
  · exact fun q => ⟨_, _, rfl, q⟩
section
variable {P : Prog} {call : Nat → List D → M D}
/-- x as a sequence -/
def sq (T : Store) (x : D) (A : List D → Prop) : Prop := ∃ ys, isSeq T x = some ys ∧ A ys
/-- the expressions -/
theorem W : (∀ (env : Env) (T : Store) (Q : D → Store → Prop), wp (evalE P call .non env) T Q = Q .non T) ∧
    (∀ b env T (Q : D → Store → Prop), wp (evalE P call (.bl b) env) T Q = Q (.bl b) T) ∧
    (∀ i env T (Q : D → Store → Prop), wp (evalE P call (.int i) env) T Q = Q (.int i) T) ∧
    (∀ x env T (Q : D → Store → Prop), wp (evalE P call (.str x) env) T Q = Q (.str x) T) ∧
    (∀ op a b env T (Q : D → Store → Prop), wp (evalE P call (.bin op a b) env) T Q = wp (evalE P call a env) T fun x T1 => wp (evalE P call b env) T1 fun y T2 => wp (opD op x y) T2 Q) ∧
    (∀ a env T (Q : D → Store → Prop), wp (evalE P call (.neg a) env) T Q = wp (evalE P call a env) T fun x T1 => wp (negD x) T1 Q) ∧
    (∀ a env T (Q : D → Store → Prop), wp (evalE P call (.not a) env) T Q = wp (evalE P call a env) T fun x T1 => wp (notD x) T1 Q) ∧
    (∀ op a b env T (Q : D → Store → Prop), wp (evalE P call (.cmp op a b) env) T Q = wp (evalE P call a env) T fun x T1 => wp (evalE P call b env) T1 fun y T2 => wp (cmpD op x y) T2 Q) ∧
    (∀ op op' a b c env T (Q : D → Store → Prop), wp (evalE P call (.cmp2 op op' a b c) env) T Q = wp (evalE P call a env) T fun x T1 => wp (evalE P call b env) T1 fun y T2 => wp (cmpD op x y) T2 fun r T3 => br r (wp (evalE P call c env) T3 fun z T4 => wp (cmpD op' y z) T4 Q) (Q (.bl false) T3)) ∧
    (∀ a b env T (Q : D → Store → Prop), wp (evalE P call (.and a b) env) T Q = wp (evalE P call a env) T fun r T1 => br r (wp (evalE P call b env) T1 Q) (Q (.bl false) T1)) ∧
    (∀ a b env T (Q : D → Store → Prop), wp (evalE P call (.or a b) env) T Q = wp (evalE P call a env) T fun r T1 => br r (Q (.bl true) T1) (wp (evalE P call b env) T1 Q)) ∧
    (∀ c a b env T (Q : D → Store → Prop), wp (evalE P call (.ite c a b) env) T Q = wp (evalE P call c env) T fun r T1 => br r (wp (evalE P call a env) T1 Q) (wp (evalE P call b env) T1 Q)) ∧
    (∀ es env T (Q : D → Store → Prop), wp (evalE P call (.tup es) env) T Q = wp (evalEs P call es env) T fun ds T1 => lim ds.length = true ∧ Q (.tup ds) T1) ∧
    (∀ es env T (Q : D → Store → Prop), wp (evalE P call (.lst es) env) T Q = wp (evalEs P call es env) T fun ds T1 => lim ds.length = true ∧ Q (.lst ds) T1) ∧
    (∀ fs es env T (Q : D → Store → Prop), wp (evalE P call (.tupS fs es) env) T Q = wp (evalSs P call es fs env) T fun ds T1 => lim ds.length = true ∧ Q (.tup ds) T1) ∧
    (∀ fs es env T (Q : D → Store → Prop), wp (evalE P call (.labS fs es) env) T Q = wp (evalSs P call es fs env) T fun ds T1 => lim ds.length = true ∧ Q (.lab ds) T1) ∧
    (∀ a b env T (Q : D → Store → Prop), wp (evalE P call (.idx a b) env) T Q = wp (evalE P call a env) T fun x T1 => wp (evalE P call b env) T1 fun y T2 => wp (idxD x y) T2 Q) ∧
    (∀ a lo hi env T (Q : D → Store → Prop), wp (evalE P call (.slc a lo hi) env) T Q = wp (evalE P call a env) T fun x T1 => wp (evalO P call lo env) T1 fun l T2 => wp (evalO P call hi env) T2 fun r T3 => wp (slcD x l r) T3 Q) ∧
    (∀ f es env T (Q : D → Store → Prop), wp (evalE P call (.call f es) env) T Q = wp (evalEs P call es env) T fun ds T1 => wp (call f ds) T1 Q) ∧
    (∀ b es env T (Q : D → Store → Prop), wp (evalE P call (.blt b es) env) T Q = wp (evalEs P call es env) T fun ds T1 => wp (bltD b ds) T1 Q) ∧
    (∀ a ts env T (Q : D → Store → Prop), wp (evalE P call (.isi a ts) env) T Q = wp (evalE P call a env) T fun x T1 => wp (isiD x ts) T1 Q) ∧
    (∀ a ts env T (Q : D → Store → Prop), wp (evalE P call (.isO a ts) env) T Q = wp (evalE P call a env) T fun x T1 => wp (isOD P x ts) T1 Q) ∧
    (∀ m o es env T (Q : D → Store → Prop), wp (evalE P call (.mth m o es) env) T Q = wp (evalE P call o env) T fun x T1 => tyOk m x T1 = true ∧ wp (evalEs P call es env) T1 fun ds T2 => wp (mthD m x ds) T2 Q) ∧
    (∀ t env T (Q : D → Store → Prop), wp (evalE P call (.dict0 t) env) T Q = Q (.ref T.length) (T ++ [.dic t []])) ∧
    (∀ a env T (Q : D → Store → Prop), wp (evalE P call (.sset a) env) T Q = wp (evalE P call a env) T fun x T1 => wp (ssetD x) T1 Q) ∧
    (∀ a env T (Q : D → Store → Prop), wp (evalE P call (.mut a) env) T Q = wp (evalE P call a env) T fun x T1 => wp (mutD x) T1 Q) ∧
    (∀ a env T (Q : D → Store → Prop), wp (evalE P call (.frz a) env) T Q = wp (evalE P call a env) T fun x T1 => wp (frzD x) T1 Q) ∧
    (∀ a f env T (Q : D → Store → Prop), wp (evalE P call (.att a f) env) T Q = wp (evalE P call a env) T fun x T1 => wp (attD P call x f) T1 Q) ∧
    (∀ a m es env T (Q : D → Store → Prop), wp (evalE P call (.meth a m es) env) T Q = wp (evalE P call a env) T fun x T1 => wp (methOf P x m) T1 fun g T2 => wp (evalEs P call es env) T2 fun ds T3 => wp (callF P call g (x :: ds)) T3 Q) ∧
    (∀ z c es env T (Q : D → Store → Prop), wp (evalE P call (.make z c es) env) T Q = wp (evalEs P call es env) T fun ds T1 => wp (makeD P call z c ds) T1 Q) ∧
    (∀ a es env T (Q : D → Store → Prop), wp (evalE P call (.callO a es) env) T Q = wp (evalE P call a env) T fun x T1 => wp (evalEs P call es env) T1 fun ds T2 => wp (methOf P x "__call__") T2 fun g T3 => wp (callF P call g (x :: ds)) T3 Q) ∧
    (∀ a env T (Q : D → Store → Prop), wp (evalE P call (.labT a) env) T Q = wp (evalE P call a env) T fun x T1 => wp (labTD x) T1 Q) ∧
    (∀ a env T (Q : D → Store → Prop), wp (evalE P call (.itemsL a) env) T Q = wp (evalE P call a env) T fun x T1 => wp (itemsD x) T1 Q) ∧
    (∀ a env T (Q : D → Store → Prop), wp (evalE P call (.sortedK a) env) T Q = wp (evalE P call a env) T fun x T1 => wp (sortedKD x) T1 Q) ∧
    (∀ a env T (Q : D → Store → Prop), wp (evalE P call (.minT a) env) T Q = wp (evalE P call a env) T fun x T1 => wp (minTD x) T1 Q) ∧
    (∀ a env T (Q : D → Store → Prop), wp (evalE P call (.maxT a) env) T Q = wp (evalE P call a env) T fun x T1 => wp (maxTD x) T1 Q) ∧
    (∀ a env T (Q : D → Store → Prop), wp (evalE P call (.tupStr a) env) T Q = wp (evalE P call a env) T fun x T1 => wp (tupStrD x) T1 Q) ∧
    (∀ a env T (Q : D → Store → Prop), wp (evalE P call (.rev a) env) T Q = wp (evalE P call a env) T fun x T1 => wp (revD x) T1 Q) ∧
    (∀ env T (Q : List D → Store → Prop), wp (evalEs P call [] env) T Q = Q [] T) ∧
    (∀ e es env T (Q : List D → Store → Prop), wp (evalEs P call (e :: es) env) T Q = wp (evalE P call e env) T fun x T1 => wp (evalEs P call es env) T1 fun xs T2 => Q (x :: xs) T2) ∧
    (∀ fs env T (Q : List D → Store → Prop), wp (evalSs P call [] fs env) T Q = Q [] T) ∧
    (∀ e es fs env T (Q : List D → Store → Prop), wp (evalSs P call (e :: es) (false :: fs) env) T Q = wp (evalE P call e env) T fun x T1 => wp (evalSs P call es fs env) T1 fun xs T2 => Q (x :: xs) T2) ∧
    (∀ e es fs env T (Q : List D → Store → Prop), wp (evalSs P call (e :: es) (true :: fs) env) T Q = wp (evalE P call e env) T fun x T1 => wp (seqD x) T1 fun ys T2 => wp (evalSs P call es fs env) T2 fun xs T3 => Q (ys ++ xs) T3) ∧
    (∀ env T (Q : Option Int → Store → Prop), wp (evalO P call none env) T Q = Q none T) ∧
    (∀ env T (Q : Bool → Store → Prop), wp (evalC P call none env) T Q = Q true T) ∧
    (∀ e env T (Q : Bool → Store → Prop), wp (evalC P call (some e) env) T Q = wp (evalE P call e env) T fun x T1 => wp (boolD x) T1 Q) ∧
    (∀ a env T (Q : Walk → Store → Prop), wp (evalI P call (.seq a) env) T Q = wp (evalE P call a env) T fun x T1 => wp (seqWalk x) T1 Q) ∧
    (∀ a env T (Q : Walk → Store → Prop), wp (evalI P call (.rng1 a) env) T Q = wp (evalE P call a env) T fun x T1 => wp (rng1D x) T1 Q) ∧
    (∀ a b env T (Q : Walk → Store → Prop), wp (evalI P call (.rng2 a b) env) T Q = wp (evalE P call a env) T fun x T1 => wp (evalE P call b env) T1 fun y T2 => wp (rng2D x y) T2 Q) ∧
    (∀ a env T (Q : Walk → Store → Prop), wp (evalI P call (.enum a) env) T Q = wp (evalE P call a env) T fun x T1 => wp (enumWalk x) T1 Q) ∧
    (∀ a b env T (Q : Walk → Store → Prop), wp (evalI P call (.zip a b) env) T Q = wp (evalE P call a env) T fun x T1 => wp (evalE P call b env) T1 fun y T2 => wp (zipWalk x y) T2 Q) := by
  refine ⟨?_, ?_, ?_, ?_, ?_, ?_, ?_, ?_, ?_, ?_, ?_, ?_, ?_, ?_, ?_, ?_, ?_, ?_, ?_, ?_, ?_, ?_, ?_, ?_, ?_, ?_, ?_, ?_, ?_, ?_, ?_, ?_, ?_, ?_, ?_, ?_, ?_, ?_, ?_, ?_, ?_, ?_, ?_, ?_, ?_, ?_, ?_, ?_, ?_, ?_, ?_⟩
  · intros; simp only [evalE, evalEs, evalSs, evalO, evalC, evalI, wb, wpu, wif, wif2]
  · intros; simp only [evalE, evalEs, evalSs, evalO, evalC, evalI, wb, wpu, wif, wif2]
  · intros; simp only [evalE, evalEs, evalSs, evalO, evalC, evalI, wb, wpu, wif, wif2]
  · intros; simp only [evalE, evalEs, evalSs, evalO, evalC, evalI, wb, wpu, wif, wif2]
  · intros; simp only [evalE, evalEs, evalSs, evalO, evalC, evalI, wb, wpu, wif, wif2]
  · intros; simp only [evalE, evalEs, evalSs, evalO, evalC, evalI, wb, wpu, wif, wif2]
  · intros; simp only [evalE, evalEs, evalSs, evalO, evalC, evalI, wb, wpu, wif, wif2]
  · intros; simp only [evalE, evalEs, evalSs, evalO, evalC, evalI, wb, wpu, wif, wif2]
  · intro op op' a b c env T Q
    simp only [evalE]
    rw [wb]
    refine congrArg (wp _ _) (funext fun x => funext fun T1 => ?_)
    rw [wb]
    refine congrArg (wp _ _) (funext fun y => funext fun T2 => ?_)
    rw [wb]
    refine congrArg (wp _ _) (funext fun r => funext fun T3 => ?_)
    exact br_eq.trans (by simp only [wpu, wb])
  · intro a b env T Q
    simp only [evalE]
    rw [wb]
    exact congrArg (wp _ _) (funext fun r => funext fun T1 => br_eq.trans (by simp only [wpu]))
  · intro a b env T Q
    simp only [evalE]
    rw [wb]
    exact congrArg (wp _ _) (funext fun r => funext fun T1 => br_eq.trans (by simp only [wpu]))
  · intro c a b env T Q
    simp only [evalE]
    rw [wb]
    exact congrArg (wp _ _) (funext fun r => funext fun T1 => br_eq)
  · intros; simp only [evalE]; exact wb.trans (congrArg (wp _ _) (funext fun ds => funext fun T1 => wif))
  · intros; simp only [evalE]; exact wb.trans (congrArg (wp _ _) (funext fun ds => funext fun T1 => wif))
  · intros; simp only [evalE]; exact wb.trans (congrArg (wp _ _) (funext fun ds => funext fun T1 => wif))
  · intros; simp only [evalE]; exact wb.trans (congrArg (wp _ _) (funext fun ds => funext fun T1 => wif))
  · intros; simp only [evalE, evalEs, evalSs, evalO, evalC, evalI, wb, wpu, wif, wif2]
  · intros; simp only [evalE, evalEs, evalSs, evalO, evalC, evalI, wb, wpu, wif, wif2]
  · intros; simp only [evalE, evalEs, evalSs, evalO, evalC, evalI, wb, wpu, wif, wif2]
  · intros; simp only [evalE, evalEs, evalSs, evalO, evalC, evalI, wb, wpu, wif, wif2]
  · intros; simp only [evalE, evalEs, evalSs, evalO, evalC, evalI, wb, wpu, wif, wif2]
  · intros; simp only [evalE, evalEs, evalSs, evalO, evalC, evalI, wb, wpu, wif, wif2]
  · intro m o es env T Q
    simp only [evalE]
    refine wb.trans (congrArg (wp _ _) (funext fun x => funext fun T1 => ?_))
    refine wb.trans ?_
    refine (wif2 (b := fun T => tyOk m x T)).trans ?_
    rw [wb]
  · intro t env T Q
    simp only [evalE]
    exact wnew
  · intros; simp only [evalE, evalEs, evalSs, evalO, evalC, evalI, wb, wpu, wif, wif2]
  · intros; simp only [evalE, evalEs, evalSs, evalO, evalC, evalI, wb, wpu, wif, wif2]
  · intros; simp only [evalE, evalEs, evalSs, evalO, evalC, evalI, wb, wpu, wif, wif2]
  · intros; simp only [evalE, evalEs, evalSs, evalO, evalC, evalI, wb, wpu, wif, wif2]
  · intros; simp only [evalE, evalEs, evalSs, evalO, evalC, evalI, wb, wpu, wif, wif2]
  · intros; simp only [evalE, evalEs, evalSs, evalO, evalC, evalI, wb, wpu, wif, wif2]
  · intros; simp only [evalE, callOD, wb]
  · intros; simp only [evalE, evalEs, evalSs, evalO, evalC, evalI, wb, wpu, wif, wif2]
  · intros; simp only [evalE, evalEs, evalSs, evalO, evalC, evalI, wb, wpu, wif, wif2]
  · intros; simp only [evalE, evalEs, evalSs, evalO, evalC, evalI, wb, wpu, wif, wif2]
  · intros; simp only [evalE, evalEs, evalSs, evalO, evalC, evalI, wb, wpu, wif, wif2]
  · intros; simp only [evalE, evalEs, evalSs, evalO, evalC, evalI, wb, wpu, wif, wif2]
  · intros; simp only [evalE, evalEs, evalSs, evalO, evalC, evalI, wb, wpu, wif, wif2]
  · intros; simp only [evalE, evalEs, evalSs, evalO, evalC, evalI, wb, wpu, wif, wif2]
  · intros; simp only [evalE, evalEs, evalSs, evalO, evalC, evalI, wb, wpu, wif, wif2]
  · intros; simp only [evalE, evalEs, evalSs, evalO, evalC, evalI, wb, wpu, wif, wif2]
  · intros; simp only [evalE, evalEs, evalSs, evalO, evalC, evalI, wb, wpu, wif, wif2]
  · intros; simp only [evalE, evalEs, evalSs, evalO, evalC, evalI, wb, wpu, wif, wif2]
  · intros; simp only [evalE, evalEs, evalSs, evalO, evalC, evalI, wb, wpu, wif, wif2]
  · intros; simp only [evalE, evalEs, evalSs, evalO, evalC, evalI, wb, wpu, wif, wif2]
  · intros; simp only [evalE, evalEs, evalSs, evalO, evalC, evalI, wb, wpu, wif, wif2]
  · intros; simp only [evalE, evalEs, evalSs, evalO, evalC, evalI, wb, wpu, wif, wif2]
  · intros; simp only [evalE, evalEs, evalSs, evalO, evalC, evalI, wb, wpu, wif, wif2]
  · intros; simp only [evalE, evalEs, evalSs, evalO, evalC, evalI, wb, wpu, wif, wif2]
  · intros; simp only [evalE, evalEs, evalSs, evalO, evalC, evalI, wb, wpu, wif, wif2]
  · intros; simp only [evalE, evalEs, evalSs, evalO, evalC, evalI, wb, wpu, wif, wif2]
  · intros; simp only [evalE, evalEs, evalSs, evalO, evalC, evalI, wb, wpu, wif, wif2]
theorem WV {env : Env} {T : Store} {Q : D → Store → Prop} {i : Nat} {d : D} (h : env[i]? = some (some d)) : wp (evalE P call (.var i) env) T Q = Q d T := by
  simp only [evalE, h, wpu]
theorem WO {e : E} {env : Env} {T : Store} {Q : Option Int → Store → Prop} : wp (evalO P call (some e) env) T Q = wp (evalE P call e env) T fun x T1 => ∃ i, x = .int i ∧ Q (some i) T1 := by
  simp only [evalO]
  rw [wb]
  refine congrArg (wp _ _) (funext fun x => funext fun T1 => ?_)
  cases x <;> first | (simp only [wfl, reduceCtorEq, false_and, exists_false]; done) | simp only [wpu, D.int.injEq, exists_eq_left']
end
/-- a name is read -/
def vr (o : Option (Option D)) (A : D → Prop) : Prop := ∃ d, o = some (some d) ∧ A d
theorem vr_some {d : D} {A : D → Prop} : vr (some (some d)) A = A d := by
  apply propext
  constructor
  · rintro ⟨e, h, q⟩
    cases h
    exact q
  · exact fun q => ⟨d, rfl, q⟩
theorem WR {P : Prog} {call : Nat → List D → M D} {env : Env} {T : Store} {Q : D → Store → Prop} {i : Nat} : wp (evalE P call (.var i) env) T Q = vr env[i]? fun d => Q d T := by
  simp only [evalE]
  apply propext
  constructor
  · rintro ⟨d, T', e, q⟩
    cases h : env[i]? with
    | none => rw [h] at e; cases e
    | some o =>
      rw [h] at e
      cases o with
      | none => cases e
      | some d' =>
        cases e
        exact ⟨_, rfl, q⟩
  · rintro ⟨d, h, q⟩
    rw [h]
    exact ⟨d, T, rfl, q⟩
theorem EG : (∀ (a0 : Option D) (l : Env), (a0 :: l)[0]? = some a0) ∧
    (∀ (a0 a1 : Option D) (l : Env), (a0 :: a1 :: l)[1]? = some a1) ∧
    (∀ (a0 a1 a2 : Option D) (l : Env), (a0 :: a1 :: a2 :: l)[2]? = some a2) ∧
    (∀ (a0 a1 a2 a3 : Option D) (l : Env), (a0 :: a1 :: a2 :: a3 :: l)[3]? = some a3) ∧
    (∀ (a0 a1 a2 a3 a4 : Option D) (l : Env), (a0 :: a1 :: a2 :: a3 :: a4 :: l)[4]? = some a4) ∧
    (∀ (a0 a1 a2 a3 a4 a5 : Option D) (l : Env), (a0 :: a1 :: a2 :: a3 :: a4 :: a5 :: l)[5]? = some a5) ∧
    (∀ (a0 a1 a2 a3 a4 a5 a6 : Option D) (l : Env), (a0 :: a1 :: a2 :: a3 :: a4 :: a5 :: a6 :: l)[6]? = some a6) ∧
    (∀ (a0 a1 a2 a3 a4 a5 a6 a7 : Option D) (l : Env), (a0 :: a1 :: a2 :: a3 :: a4 :: a5 :: a6 :: a7 :: l)[7]? = some a7) ∧
    (∀ (a0 a1 a2 a3 a4 a5 a6 a7 a8 : Option D) (l : Env), (a0 :: a1 :: a2 :: a3 :: a4 :: a5 :: a6 :: a7 :: a8 :: l)[8]? = some a8) ∧
    (∀ (a0 a1 a2 a3 a4 a5 a6 a7 a8 a9 : Option D) (l : Env), (a0 :: a1 :: a2 :: a3 :: a4 :: a5 :: a6 :: a7 :: a8 :: a9 :: l)[9]? = some a9) ∧
    (∀ (a0 a1 a2 a3 a4 a5 a6 a7 a8 a9 a10 : Option D) (l : Env), (a0 :: a1 :: a2 :: a3 :: a4 :: a5 :: a6 :: a7 :: a8 :: a9 :: a10 :: l)[10]? = some a10) ∧
    (∀ (a0 a1 a2 a3 a4 a5 a6 a7 a8 a9 a10 a11 : Option D) (l : Env), (a0 :: a1 :: a2 :: a3 :: a4 :: a5 :: a6 :: a7 :: a8 :: a9 :: a10 :: a11 :: l)[11]? = some a11) ∧
    (∀ (a0 a1 a2 a3 a4 a5 a6 a7 a8 a9 a10 a11 a12 : Option D) (l : Env), (a0 :: a1 :: a2 :: a3 :: a4 :: a5 :: a6 :: a7 :: a8 :: a9 :: a10 :: a11 :: a12 :: l)[12]? = some a12) ∧
    (∀ (a0 a1 a2 a3 a4 a5 a6 a7 a8 a9 a10 a11 a12 a13 : Option D) (l : Env), (a0 :: a1 :: a2 :: a3 :: a4 :: a5 :: a6 :: a7 :: a8 :: a9 :: a10 :: a11 :: a12 :: a13 :: l)[13]? = some a13) ∧
    (∀ (a0 a1 a2 a3 a4 a5 a6 a7 a8 a9 a10 a11 a12 a13 a14 : Option D) (l : Env), (a0 :: a1 :: a2 :: a3 :: a4 :: a5 :: a6 :: a7 :: a8 :: a9 :: a10 :: a11 :: a12 :: a13 :: a14 :: l)[14]? = some a14) ∧
    (∀ (a0 a1 a2 a3 a4 a5 a6 a7 a8 a9 a10 a11 a12 a13 a14 a15 : Option D) (l : Env), (a0 :: a1 :: a2 :: a3 :: a4 :: a5 :: a6 :: a7 :: a8 :: a9 :: a10 :: a11 :: a12 :: a13 :: a14 :: a15 :: l)[15]? = some a15) ∧
    (∀ (a0 a1 a2 a3 a4 a5 a6 a7 a8 a9 a10 a11 a12 a13 a14 a15 a16 : Option D) (l : Env), (a0 :: a1 :: a2 :: a3 :: a4 :: a5 :: a6 :: a7 :: a8 :: a9 :: a10 :: a11 :: a12 :: a13 :: a14 :: a15 :: a16 :: l)[16]? = some a16) ∧
    (∀ (a0 a1 a2 a3 a4 a5 a6 a7 a8 a9 a10 a11 a12 a13 a14 a15 a16 a17 : Option D) (l : Env), (a0 :: a1 :: a2 :: a3 :: a4 :: a5 :: a6 :: a7 :: a8 :: a9 :: a10 :: a11 :: a12 :: a13 :: a14 :: a15 :: a16 :: a17 :: l)[17]? = some a17) := by
  refine ⟨?_, ?_, ?_, ?_, ?_, ?_, ?_, ?_, ?_, ?_, ?_, ?_, ?_, ?_, ?_, ?_, ?_, ?_⟩ <;> intros <;> rfl
theorem ES : (∀ (a0 x : Option D) (l : Env), (a0 :: l).set 0 x = x :: l) ∧
    (∀ (a0 a1 x : Option D) (l : Env), (a0 :: a1 :: l).set 1 x = a0 :: x :: l) ∧
    (∀ (a0 a1 a2 x : Option D) (l : Env), (a0 :: a1 :: a2 :: l).set 2 x = a0 :: a1 :: x :: l) ∧
    (∀ (a0 a1 a2 a3 x : Option D) (l : Env), (a0 :: a1 :: a2 :: a3 :: l).set 3 x = a0 :: a1 :: a2 :: x :: l) ∧
    (∀ (a0 a1 a2 a3 a4 x : Option D) (l : Env), (a0 :: a1 :: a2 :: a3 :: a4 :: l).set 4 x = a0 :: a1 :: a2 :: a3 :: x :: l) ∧
    (∀ (a0 a1 a2 a3 a4 a5 x : Option D) (l : Env), (a0 :: a1 :: a2 :: a3 :: a4 :: a5 :: l).set 5 x = a0 :: a1 :: a2 :: a3 :: a4 :: x :: l) ∧
    (∀ (a0 a1 a2 a3 a4 a5 a6 x : Option D) (l : Env), (a0 :: a1 :: a2 :: a3 :: a4 :: a5 :: a6 :: l).set 6 x = a0 :: a1 :: a2 :: a3 :: a4 :: a5 :: x :: l) ∧
    (∀ (a0 a1 a2 a3 a4 a5 a6 a7 x : Option D) (l : Env), (a0 :: a1 :: a2 :: a3 :: a4 :: a5 :: a6 :: a7 :: l).set 7 x = a0 :: a1 :: a2 :: a3 :: a4 :: a5 :: a6 :: x :: l) ∧
    (∀ (a0 a1 a2 a3 a4 a5 a6 a7 a8 x : Option D) (l : Env), (a0 :: a1 :: a2 :: a3 :: a4 :: a5 :: a6 :: a7 :: a8 :: l).set 8 x = a0 :: a1 :: a2 :: a3 :: a4 :: a5 :: a6 :: a7 :: x :: l) ∧
    (∀ (a0 a1 a2 a3 a4 a5 a6 a7 a8 a9 x : Option D) (l : Env), (a0 :: a1 :: a2 :: a3 :: a4 :: a5 :: a6 :: a7 :: a8 :: a9 :: l).set 9 x = a0 :: a1 :: a2 :: a3 :: a4 :: a5 :: a6 :: a7 :: a8 :: x :: l) ∧
    (∀ (a0 a1 a2 a3 a4 a5 a6 a7 a8 a9 a10 x : Option D) (l : Env), (a0 :: a1 :: a2 :: a3 :: a4 :: a5 :: a6 :: a7 :: a8 :: a9 :: a10 :: l).set 10 x = a0 :: a1 :: a2 :: a3 :: a4 :: a5 :: a6 :: a7 :: a8 :: a9 :: x :: l) ∧
    (∀ (a0 a1 a2 a3 a4 a5 a6 a7 a8 a9 a10 a11 x : Option D) (l : Env), (a0 :: a1 :: a2 :: a3 :: a4 :: a5 :: a6 :: a7 :: a8 :: a9 :: a10 :: a11 :: l).set 11 x = a0 :: a1 :: a2 :: a3 :: a4 :: a5 :: a6 :: a7 :: a8 :: a9 :: a10 :: x :: l) ∧
    (∀ (a0 a1 a2 a3 a4 a5 a6 a7 a8 a9 a10 a11 a12 x : Option D) (l : Env), (a0 :: a1 :: a2 :: a3 :: a4 :: a5 :: a6 :: a7 :: a8 :: a9 :: a10 :: a11 :: a12 :: l).set 12 x = a0 :: a1 :: a2 :: a3 :: a4 :: a5 :: a6 :: a7 :: a8 :: a9 :: a10 :: a11 :: x :: l) ∧
    (∀ (a0 a1 a2 a3 a4 a5 a6 a7 a8 a9 a10 a11 a12 a13 x : Option D) (l : Env), (a0 :: a1 :: a2 :: a3 :: a4 :: a5 :: a6 :: a7 :: a8 :: a9 :: a10 :: a11 :: a12 :: a13 :: l).set 13 x = a0 :: a1 :: a2 :: a3 :: a4 :: a5 :: a6 :: a7 :: a8 :: a9 :: a10 :: a11 :: a12 :: x :: l) ∧
    (∀ (a0 a1 a2 a3 a4 a5 a6 a7 a8 a9 a10 a11 a12 a13 a14 x : Option D) (l : Env), (a0 :: a1 :: a2 :: a3 :: a4 :: a5 :: a6 :: a7 :: a8 :: a9 :: a10 :: a11 :: a12 :: a13 :: a14 :: l).set 14 x = a0 :: a1 :: a2 :: a3 :: a4 :: a5 :: a6 :: a7 :: a8 :: a9 :: a10 :: a11 :: a12 :: a13 :: x :: l) ∧
    (∀ (a0 a1 a2 a3 a4 a5 a6 a7 a8 a9 a10 a11 a12 a13 a14 a15 x : Option D) (l : Env), (a0 :: a1 :: a2 :: a3 :: a4 :: a5 :: a6 :: a7 :: a8 :: a9 :: a10 :: a11 :: a12 :: a13 :: a14 :: a15 :: l).set 15 x = a0 :: a1 :: a2 :: a3 :: a4 :: a5 :: a6 :: a7 :: a8 :: a9 :: a10 :: a11 :: a12 :: a13 :: a14 :: x :: l) ∧
    (∀ (a0 a1 a2 a3 a4 a5 a6 a7 a8 a9 a10 a11 a12 a13 a14 a15 a16 x : Option D) (l : Env), (a0 :: a1 :: a2 :: a3 :: a4 :: a5 :: a6 :: a7 :: a8 :: a9 :: a10 :: a11 :: a12 :: a13 :: a14 :: a15 :: a16 :: l).set 16 x = a0 :: a1 :: a2 :: a3 :: a4 :: a5 :: a6 :: a7 :: a8 :: a9 :: a10 :: a11 :: a12 :: a13 :: a14 :: a15 :: x :: l) ∧
    (∀ (a0 a1 a2 a3 a4 a5 a6 a7 a8 a9 a10 a11 a12 a13 a14 a15 a16 a17 x : Option D) (l : Env), (a0 :: a1 :: a2 :: a3 :: a4 :: a5 :: a6 :: a7 :: a8 :: a9 :: a10 :: a11 :: a12 :: a13 :: a14 :: a15 :: a16 :: a17 :: l).set 17 x = a0 :: a1 :: a2 :: a3 :: a4 :: a5 :: a6 :: a7 :: a8 :: a9 :: a10 :: a11 :: a12 :: a13 :: a14 :: a15 :: a16 :: x :: l) := by
  refine ⟨?_, ?_, ?_, ?_, ?_, ?_, ?_, ?_, ?_, ?_, ?_, ?_, ?_, ?_, ?_, ?_, ?_, ?_⟩ <;> intros <;> rfl
/-! ### plain values -/
theorem wok {α : Type} {m : M α} {T T' : Store} {a : α} {Q : α → Store → Prop} (h : m T = .ok a T') : wp m T Q = Q a T' := by
  apply propext
  constructor
  · rintro ⟨b, T2, e, q⟩
    rw [h] at e
    cases e
    exact q
  · exact fun q => ⟨_, _, h, q⟩
/-- operations that always end -/
theorem WD : (∀ (i j : Int) T (Q : D → Store → Prop), wp (opD .add (.int i) (.int j)) T Q = Q (.int (i + j)) T) ∧
    (∀ (i j : Int) T (Q : D → Store → Prop), wp (opD .sub (.int i) (.int j)) T Q = Q (.int (i - j)) T) ∧
    (∀ (i : Int) T (Q : D → Store → Prop), wp (negD (.int i)) T Q = Q (.int (-i)) T) ∧
    (∀ (k : Bool) T (Q : D → Store → Prop), wp (notD (.bl k)) T Q = Q (.bl !k) T) ∧
    (∀ (k : Bool) T (Q : Bool → Store → Prop), wp (boolD (.bl k)) T Q = Q k T) ∧
    (∀ (i j : Int) T (Q : D → Store → Prop), wp (cmpD .lt (.int i) (.int j)) T Q = Q (.bl (decide (i < j))) T) ∧
    (∀ (i j : Int) T (Q : D → Store → Prop), wp (cmpD .gt (.int i) (.int j)) T Q = Q (.bl (decide (j < i))) T) ∧
    (∀ (i j : Int) T (Q : D → Store → Prop), wp (cmpD .le (.int i) (.int j)) T Q = Q (.bl !(decide (j < i))) T) ∧
    (∀ (i j : Int) T (Q : D → Store → Prop), wp (cmpD .ge (.int i) (.int j)) T Q = Q (.bl !(decide (i < j))) T) ∧
    (∀ (i j : Int) T (Q : D → Store → Prop), wp (cmpD .eq (.int i) (.int j)) T Q = Q (.bl (i == j)) T) ∧
    (∀ (i j : Int) T (Q : D → Store → Prop), wp (cmpD .ne (.int i) (.int j)) T Q = Q (.bl !(i == j)) T) ∧
    (∀ (i : Int) T (Q : D → Store → Prop), wp (bltD .int [.int i]) T Q = Q (.int i) T) ∧
    (∀ (k : Bool) T (Q : D → Store → Prop), wp (bltD .int [.bl k]) T Q = Q (.int (if k then 1 else 0)) T) ∧
    (∀ (i : Int) T (Q : D → Store → Prop), wp (bltD .abs [.int i]) T Q = Q (.int (if i < 0 then -i else i)) T) ∧
    (∀ (i j : Int) T (Q : D → Store → Prop), wp (bltD .max2 [.int i, .int j]) T Q = Q (.int (if j > i then j else i)) T) ∧
    (∀ (xs : List D) T (Q : D → Store → Prop), wp (bltD .len [.lst xs]) T Q = Q (.int xs.length) T) ∧
    (∀ (xs : List D) T (Q : D → Store → Prop), wp (bltD .len [.tup xs]) T Q = Q (.int xs.length) T) ∧
    (∀ (xs : List D) T (Q : D → Store → Prop), wp (bltD .len [.lab xs]) T Q = Q (.int xs.length) T) ∧
    (∀ (xs : List D) T (Q : D → Store → Prop), wp (bltD .tuple [.lst xs]) T Q = Q (.tup xs) T) ∧
    (∀ (xs : List D) T (Q : D → Store → Prop), wp (bltD .tuple [.tup xs]) T Q = Q (.tup xs) T) ∧
    (∀ (xs : List D) T (Q : D → Store → Prop), wp (bltD .list [.lst xs]) T Q = Q (.lst xs) T) ∧
    (∀ (xs : List D) T (Q : D → Store → Prop), wp (bltD .list [.tup xs]) T Q = Q (.lst xs) T) ∧
    (∀ (xs : List D) T (Q : D → Store → Prop), wp (mutD (.lst xs)) T Q = Q (.ref T.length) (T ++ [.lst xs])) ∧
    (∀ (xs : List D) T (Q : D → Store → Prop), wp (labTD (.lst xs)) T Q = Q (.lab xs) T) ∧
    (∀ (xs : List D) T (Q : D → Store → Prop), wp (labTD (.lab xs)) T Q = Q (.lab xs) T) ∧
    (∀ (xs : List D) T (Q : List D → Store → Prop), wp (seqD (.tup xs)) T Q = Q xs T) ∧
    (∀ (xs : List D) T (Q : List D → Store → Prop), wp (seqD (.lst xs)) T Q = Q xs T) ∧
    (∀ (xs : List D) T (Q : List D → Store → Prop), wp (seqD (.lab xs)) T Q = Q xs T) ∧
    (∀ (xs : List D) T (Q : Walk → Store → Prop), wp (seqWalk (.tup xs)) T Q = Q (xs, []) T) ∧
    (∀ (xs : List D) T (Q : Walk → Store → Prop), wp (seqWalk (.lst xs)) T Q = Q (xs, []) T) ∧
    (∀ (xs : List D) T (Q : Walk → Store → Prop), wp (seqWalk (.lab xs)) T Q = Q (xs, []) T) ∧
    (∀ (xs ys : List D) T (Q : Walk → Store → Prop), wp (zipWalk (.tup xs) (.tup ys)) T Q = Q (zipL xs ys, []) T) ∧
    (∀ (xs : List D) T (Q : D → Store → Prop), wp (revD (.tup xs)) T Q = Q (.tup xs.reverse) T) ∧
    (∀ (xs : List D) l h T (Q : D → Store → Prop), wp (slcD (.tup xs) l h) T Q = Q (.tup (cutD xs l h)) T) ∧
    (∀ (xs : List D) l h T (Q : D → Store → Prop), wp (slcD (.lst xs) l h) T Q = Q (.lst (cutD xs l h)) T) := by
  refine ⟨?_, ?_, ?_, ?_, ?_, ?_, ?_, ?_, ?_, ?_, ?_, ?_, ?_, ?_, ?_, ?_, ?_, ?_, ?_, ?_, ?_, ?_, ?_, ?_, ?_, ?_, ?_, ?_, ?_, ?_, ?_, ?_, ?_, ?_, ?_⟩ <;> intros <;> exact wok rfl
end Pz

set_option Elab.async false
set_option linter.all false
set_option maxRecDepth 100000
set_option maxHeartbeats 1000000
/-! U1: the urn. -/
namespace Pz
open PySem
section
variable {T : Store} {Q : D → Store → Prop}
theorem wp_mul {i j : Int} (h : mulOk i j = true) (q : Q (.int (i * j)) T) : wp (opD .mul (.int i) (.int j)) T Q := by
  refine wp_ok (a := .int (i * j)) (T' := T) ?_ q
  show okIf (mulOk i j) _ T = _
  rw [h]
  rfl
theorem wp_fdiv {i j : Int} (h : 0 < j) (h2 : j.natAbs.log2 < 9000) (q : Q (.int (i / j)) T) : wp (opD .fdiv (.int i) (.int j)) T Q := by
  refine wp_ok (a := .int (i / j)) (T' := T) (fdiv_ok ?_) q
  rw [decide_eq_true h, Bool.true_and, Nat.blt_eq]
  exact h2
theorem wp_mod {i j : Int} (h : 0 < j) (q : Q (.int (i % j)) T) : wp (opD .mod (.int i) (.int j)) T Q := wp_ok (mod_ok (decide_eq_true h)) q
theorem mulOk_r {i j : Int} (h1 : -(2 ^ 64) < j) (h2 : j < 2 ^ 64) : mulOk i j = true := by
  unfold mulOk
  have : Nat.blt j.natAbs (2 ^ 64) = true := by rw [Nat.blt_eq]; omega
  rw [this]
  simp
theorem mulOk_l {i j : Int} (h1 : -(2 ^ 64) < i) (h2 : i < 2 ^ 64) : mulOk i j = true := by
  unfold mulOk
  have : Nat.blt i.natAbs (2 ^ 64) = true := by rw [Nat.blt_eq]; omega
  rw [this]
  simp
theorem wp_idx {xs : List D} {x d : D} {k : Int} (h1 : isSeq T x = some xs) (h2 : L2.atI xs k = some d) (q : Q d T) : wp (idxD x (.int k)) T Q := by
  refine wp_ok (a := d) (T' := T) ?_ q
  unfold idxD
  cases x <;> first | (cases h1; done) | (simp only [h1, h2])
end
/-- the urn lies at u, and k more may be drawn -/
def Urn (u k : Nat) (T : Store) : Prop := ∃ a b c : Int, T[u]? = some (.lst [.int a, .int b, .int c]) ∧ 0 ≤ a ∧ 0 ≤ b ∧ b < 2 ^ 62 ∧ 0 ≤ c ∧ c + k ≤ 2 ^ 40
/-- what is older than T stays, the urn aside -/
def Keep (u : Nat) (T T' : Store) : Prop := T.length ≤ T'.length ∧ ∀ i, i < T.length → i ≠ u → T'[i]? = T[i]?
theorem Keep.refl {u : Nat} {T : Store} : Keep u T T := ⟨Nat.le_refl _, fun _ _ _ => rfl⟩
theorem Keep.trans {u : Nat} {T T' T'' : Store} (h : Keep u T T') (k : Keep u T' T'') : Keep u T T'' := ⟨Nat.le_trans h.1 k.1, fun i hi hu => (k.2 i (Nat.lt_of_lt_of_le hi h.1) hu).trans (h.2 i hi hu)⟩
theorem Urn.less {u k k' : Nat} {T : Store} (h : Urn u k T) (l : k' ≤ k) : Urn u k' T := by
  obtain ⟨a, b, c, h1, h2, h3, h4, h5, h6⟩ := h
  exact ⟨a, b, c, h1, h2, h3, h4, h5, by omega⟩
theorem Urn.lt {u k : Nat} {T : Store} (h : Urn u k T) : u < T.length := by
  obtain ⟨a, b, c, h1, _⟩ := h
  exact (List.getElem?_eq_some_iff.mp h1).1
theorem Urn.app {u k : Nat} {T X : Store} (h : Urn u k T) : Urn u k (T ++ X) := by
  have hl := h.lt
  obtain ⟨a, b, c, h1, r⟩ := h
  exact ⟨a, b, c, by rw [List.getElem?_append_left hl]; exact h1, r⟩
theorem Keep.app {u : Nat} {T X : Store} : Keep u T (T ++ X) := ⟨by simp, fun i hi _ => by rw [List.getElem?_append_left hi]⟩
def takeBody : List S := [.ifs (.cmp .gt (.idx (.var 0) (.int 0)) (.int 0)) [.asg (.name 5) (.bin .mod (.blt .int [.idx (.var 0) (.int 0)]) (.var 1)),
    .asgIdx (.var 0) (.int 0) (.bin .fdiv (.idx (.var 0) (.int 0)) (.var 1)),
    .ret (.var 5)] [],
    .asgIdx (.var 0) (.int 2) (.bin .add (.idx (.var 0) (.int 2)) (.int 1)),
    .asg (.name 2) (.bin .mod (.blt .int [.bin .mul (.bin .add (.idx (.var 0) (.int 1)) (.bin .mul (.int 48271) (.idx (.var 0) (.int 2)))) (.bin .add (.int 39373) (.idx (.var 0) (.int 2)))]) (.int 2147483647)),
    .asg (.name 3) (.bin .add (.bin .mod (.blt .int [.var 2]) (.int 40009)) (.int 7)),
    .asg (.name 4) (.bin .mod (.blt .int [.bin .mul (.bin .add (.bin .add (.var 2) (.idx (.var 0) (.int 2))) (.bin .fdiv (.idx (.var 0) (.int 1)) (.int 1000003))) (.var 3)]) (.int 2147483629)),
    .ret (.bin .mod (.blt .int [.bin .fdiv (.bin .mod (.blt .int [.bin .add (.bin .mul (.var 4) (.int 48271)) (.var 2)]) (.int 2147483587)) (.int 64)]) (.var 1))]
theorem take_wp {P : Prog} {n f u k : Nat} {fn : Fn} {T : Store} {low : Int} {Q : D → Store → Prop} (hf : P.fns[f]? = some fn) (hb : fn.body = takeBody) (hp : fn.ps.length = 2) (hN : fn.N.length = 6) (hu : Urn u (k + 1) T) (h0 : 0 < low) (hl : low.natAbs.log2 < 9000)
    (q : ∀ r T', 0 ≤ r → r < low → Keep u T T' → T'.length = T.length → Urn u k T' → Q (.int r) T') : wp (callN P (n + 1) f [.ref u, .int low]) T Q := by
  have hlt := hu.lt
  obtain ⟨a, b, c, h1, h2, h3, h4, h5, h6⟩ := hu
  refine wp_fn hf (by rw [hp, hN]; rfl) ?_
  rw [hb, hN]
  have sq : isSeq T (.ref u) = some [.int a, .int b, .int c] := by simp only [isSeq, h1]
  show wp (execs P (callN P n) takeBody [some (.ref u), some (.int low), none, none, none, none]) T _
  refine ws_if ?_
  simp only [W, WR, EG, vr_some]
  refine wp_idx (d := .int a) sq rfl ?_
  simp only [WD]
  refine ⟨_, rfl, fun hk => ?_, fun hk => ?_⟩
  · have ha := of_decide_eq_true hk
    refine ws_asg ?_
    simp only [W, WR, EG, vr_some]
    refine wp_idx (d := .int a) sq rfl ?_
    simp only [WD]
    refine wp_mod h0 ⟨_, rfl, ?_⟩
    simp only [ES]
    refine ws_idx ?_
    simp only [W, WR, EG, vr_some]
    refine wp_idx (d := .int a) sq rfl ?_
    refine wp_fdiv h0 hl ?_
    refine wp_ok (a := ()) (T' := T.set u (.lst [.int (a / low), .int b, .int c])) ?_ ?_
    · show setIdx (.ref u) (.int 0) _ T = _
      simp only [setIdx, h1]
      rfl
    refine ws_ret ?_
    simp only [W, WR, EG, vr_some]
    have hlen : (T.set u (.lst [.int (a / low), .int b, .int c])).length = T.length := List.length_set
    rw [gc_len hlen]
    refine q _ _ (Int.emod_nonneg _ (by omega)) (Int.emod_lt_of_pos _ h0) ⟨by rw [hlen]; exact Nat.le_refl _, fun i hi hu => ?_⟩ hlen ⟨a / low, b, c, ?_, Int.ediv_nonneg h2 (by omega), h3, h4, h5, by omega⟩
    · rw [List.getElem?_set_ne (Ne.symm hu)]
    · rw [List.getElem?_set_self hlt]
  · refine ws_idx ?_
    simp only [W, WR, EG, vr_some]
    refine wp_idx (d := .int c) sq rfl ?_
    simp only [WD]
    refine wp_ok (a := ()) (T' := T.set u (.lst [.int a, .int b, .int (c + 1)])) ?_ ?_
    · show setIdx (.ref u) (.int 2) _ T = _
      simp only [setIdx, h1]
      rfl
    have g1 : (T.set u (.lst [.int a, .int b, .int (c + 1)]))[u]? = some (.lst [.int a, .int b, .int (c + 1)]) := List.getElem?_set_self hlt
    have hlen : (T.set u (.lst [.int a, .int b, .int (c + 1)])).length = T.length := List.length_set
    have hk1 : Keep u T (T.set u (.lst [.int a, .int b, .int (c + 1)])) := ⟨by rw [hlen]; exact Nat.le_refl _, fun i hi hu => by rw [List.getElem?_set_ne (Ne.symm hu)]⟩
    have hu1 : Urn u k (T.set u (.lst [.int a, .int b, .int (c + 1)])) := ⟨a, b, c + 1, g1, h2, h3, h4, by omega, by omega⟩
    generalize T.set u (.lst [.int a, .int b, .int (c + 1)]) = T1 at g1 hlen hk1 hu1
    have sq1 : isSeq T1 (.ref u) = some [.int a, .int b, .int (c + 1)] := by simp only [isSeq, g1]
    refine ws_asg ?_
    simp only [W, WR, EG, vr_some]
    refine wp_idx (d := .int b) sq1 rfl ?_
    refine wp_idx (d := .int (c + 1)) sq1 rfl ?_
    refine wp_mul (mulOk_l (by omega) (by omega)) ?_
    simp only [WD]
    refine wp_idx (d := .int (c + 1)) sq1 rfl ?_
    simp only [WD]
    refine wp_mul (mulOk_r (by omega) (by omega)) ?_
    simp only [WD]
    refine wp_mod (by omega) ⟨_, rfl, ?_⟩
    have o1 : 0 ≤ (b + 48271 * (c + 1)) * (39373 + (c + 1)) % 2147483647 := Int.emod_nonneg _ (by omega)
    have o2 : (b + 48271 * (c + 1)) * (39373 + (c + 1)) % 2147483647 < 2147483647 := Int.emod_lt_of_pos _ (by omega)
    generalize (b + 48271 * (c + 1)) * (39373 + (c + 1)) % 2147483647 = once at o1 o2
    simp only [ES]
    refine ws_asg ?_
    simp only [W, WR, EG, vr_some, WD]
    refine wp_mod (by omega) ?_
    simp only [WD]
    refine ⟨_, rfl, ?_⟩
    have p1 : 0 ≤ once % 40009 := Int.emod_nonneg _ (by omega)
    have p2 : once % 40009 < 40009 := Int.emod_lt_of_pos _ (by omega)
    generalize once % 40009 = m at p1 p2
    simp only [ES]
    refine ws_asg ?_
    simp only [W, WR, EG, vr_some, WD]
    refine wp_idx (d := .int (c + 1)) sq1 rfl ?_
    simp only [WD]
    refine wp_idx (d := .int b) sq1 rfl ?_
    refine wp_fdiv (by omega) (by decide) ?_
    simp only [WD]
    refine wp_mul (mulOk_r (by omega) (by omega)) ?_
    simp only [WD]
    refine wp_mod (by omega) ⟨_, rfl, ?_⟩
    generalize (once + (c + 1) + b / 1000003) * (m + 7) % 2147483629 = twice
    simp only [ES]
    refine ws_ret ?_
    simp only [W, WR, EG, vr_some, WD]
    refine wp_mul (mulOk_r (by omega) (by omega)) ?_
    simp only [WD]
    refine wp_mod (by omega) ?_
    refine wp_fdiv (by omega) (by decide) ?_
    simp only [WD]
    refine wp_mod h0 ?_
    rw [gc_len hlen]
    exact q _ _ (Int.emod_nonneg _ (by omega)) (Int.emod_lt_of_pos _ h0) hk1 hlen hu1
end Pz

set_option Elab.async false
set_option linter.all false
set_option maxRecDepth 100000
set_option maxHeartbeats 1000000
/-! U2: cells, boxes, the law's frame. -/
namespace Pz
open PySem
theorem gc_take {T T' : Store} {d : D} (h : T'.take T.length = T) (hc : closD T.length d = true) : gcS true T T' d = T := by
  unfold gcS
  rw [h, hc, sameS_refl]
  rfl
theorem we_orT {P : Prog} {call : Nat → List D → M D} {env : Env} {T : Store} {Q : D → Store → Prop} {a b : E} (h : wp (evalE P call a env) T fun x T1 => ∃ xs, isList T1 x = some xs ∧ (xs = [] → wp (evalE P call b env) T1 fun y T2 => (∃ ys, isList T2 y = some ys) ∧ Q y T2) ∧ (xs ≠ [] → Q x T1)) : wp (evalE P call (.orT a b) env) T Q := by
  obtain ⟨x, T1, e1, xs, hx, h1, h2⟩ := h
  cases xs with
  | nil =>
    obtain ⟨y, T2, e2, ⟨ys, hy⟩, q⟩ := h1 rfl
    exact ⟨y, T2, ev_orT_e e1 hx e2 hy, q⟩
  | cons d ds => exact ⟨x, T1, ev_orT_n e1 hx, h2 (by simp)⟩
/-! ### _law_of -/
def ofBody (itake : Nat) : List S := [.ret (.idx (.var 1) (.call itake [.var 0, .blt .len [.var 1]]))]
theorem ofI_wp {P : Prog} {n f ft u k : Nat} {fn ftn : Fn} {T : Store} {ds : List D} {Q : D → Store → Prop} (hf : P.fns[f]? = some fn) (hb : fn.body = ofBody ft) (hp : fn.ps.length = 2) (hN : fn.N.length = 2)
    (htf : P.fns[ft]? = some ftn) (htb : ftn.body = takeBody) (htp : ftn.ps.length = 2) (htN : ftn.N.length = 6) (hu : Urn u (k + 1) T) (h0 : ds ≠ []) (hl : ds.length < 2 ^ 60)
    (q : ∀ d T', d ∈ ds → Keep u T T' → T'.length = T.length → Urn u k T' → Q d T') : wp (callN P (n + 2) f [.ref u, .lst ds]) T Q := by
  refine wp_fn hf (by rw [hp, hN]; rfl) ?_
  rw [hb, hN]
  show wp (execs P (callN P (n + 1)) (ofBody ft) [some (.ref u), some (.lst ds)]) T _
  have hpos : 0 < ds.length := List.length_pos_iff.mpr h0
  refine ws_ret ?_
  simp only [W, WR, EG, vr_some, WD]
  have hlog : ((ds.length : Int)).natAbs.log2 < 9000 := by
    have : ((ds.length : Int)).natAbs = ds.length := by omega
    rw [this]
    have := Nat.log2_lt (n := ds.length) (k := 60) (by omega)
    omega
  refine take_wp htf htb htp htN hu (by omega) hlog fun r T' r0 r1 hk hlen hu' => ?_
  obtain ⟨m, rfl⟩ : ∃ m : Nat, r = m := ⟨r.toNat, by omega⟩
  have hm : m < ds.length := by omega
  refine wp_idx (xs := ds) (d := ds[m]) rfl ?_ ?_
  · unfold L2.atI L2.ixN
    simp [hm]
  · rw [gc_len hlen]
    exact q _ _ (List.getElem_mem hm) hk hlen hu'
/-! ### _law_cells -/
def cellsBody : List S := [.asg (.name 2) (.orT (.mut (.blt .list [.slc (.var 0) none (some (.var 1))])) (.mut (.lst [.int 0]))),
    .loop (.tup [.name 3, .name 4]) (.enum (.slc (.var 0) (some (.var 1)) (some (.int 63)))) [.asg (.name 5) (.bin .mod (.blt .int [.var 3]) (.var 1)),
    .asgIdx (.var 2) (.var 5) (.bin .add (.idx (.var 2) (.var 5)) (.bin .mul (.var 4) (.bin .add (.var 3) (.int 2))))],
    .ret (.frz (.var 2))]
theorem sIx_top {n top d : Nat} : HT.sIx n d (some (top : Int)) = min top n := by
  show (if (top : Int) < 0 then ((top : Int) + (n : Int)).toNat else min (top : Int).toNat n) = _
  rw [if_neg (by omega)]
  simp
theorem cut_front {α : Type} (xs : List α) (top : Nat) : cutD xs none (some (top : Int)) = xs.take top := by
  unfold cutD
  rw [sIx_top]
  show ((xs.drop 0).take (min top xs.length - 0)) = _
  rw [List.drop_zero, Nat.sub_zero, List.take_eq_take_iff]
  omega
theorem enumL_mem : ∀ (k : Int) (xs : List D) (d : D), d ∈ enumL k xs → ∃ (i : Nat) (x : D), i < xs.length ∧ x ∈ xs ∧ d = .tup [.int (k + i), x]
  | _, [], d, h => by simp [enumL] at h
  | k, x :: xs, d, h => by
    simp only [enumL, List.mem_cons] at h
    rcases h with rfl | h
    · exact ⟨0, x, by simp, by simp, by simp⟩
    · obtain ⟨i, y, h1, h2, rfl⟩ := enumL_mem (k + 1) xs d h
      refine ⟨i + 1, y, by simp; omega, by simp [h2], ?_⟩
      congr 3
      push_cast
      omega
theorem enumL_len' : ∀ (k : Int) (xs : List D), (enumL k xs).length = xs.length
  | _, [] => rfl
  | k, x :: xs => by simp [enumL, enumL_len']
theorem cells_wp {P : Prog} {n f : Nat} {fn : Fn} {T : Store} {ns : List Int} {top : Nat} {Q : D → Store → Prop} (hf : P.fns[f]? = some fn) (hb : fn.body = cellsBody) (hp : fn.ps.length = 2) (hN : fn.N.length = 6) (hg : fn.gc = true) (h0 : 0 < top) (h1 : top < 60) (hns : ns.length ≤ 63)
    (q : ∀ cs : List Int, 0 < cs.length → cs.length ≤ top → Q (.lst (cs.map D.int)) T) : wp (callN P (n + 1) f [.ext false (ns.map D.int), .int top]) T Q := by
  refine wp_fn hf (by rw [hp, hN]; rfl) ?_
  rw [hb, hN, hg]
  show wp (execs P (callN P n) cellsBody [some (.ext false (ns.map D.int)), some (.int top), none, none, none, none]) T _
  -- from the loop on
  have rest : ∀ (m : Nat) (T1 : Store) (cs : List Int), m < T1.length → T.length ≤ m → T1.take T.length = T → T1[m]? = some (.lst (cs.map D.int)) → 0 < cs.length → cs.length ≤ top → (top < ns.length → cs.length = top) →
      wp (execs P (callN P n) (cellsBody.drop 1) [some (.ext false (ns.map D.int)), some (.int top), some (.ref m), none, none, none]) T1 fun fl T' => match fl with
        | .rt d => Q d (gcS true T T' d)
        | .nx _ => Q .non (gcS true T T' .non)
        | _ => False := by
    intro m T1 cs hm hT hpre hcell c0 c1 c2
    refine ws_loop ?_
    simp only [W, WR, EG, vr_some, WO, D.int.injEq, exists_eq_left']
    refine wp_ok (a := .lst (cutD (ns.map D.int) (some (top : Int)) (some 63))) (T' := T1) rfl ?_
    refine wp_ok (a := (enumL 0 (cutD (ns.map D.int) (some (top : Int)) (some 63)), [])) (T' := T1) rfl ?_
    have hcut : ∀ x ∈ cutD (ns.map D.int) (some (top : Int)) (some 63), ∃ i, x = D.int i := by
      intro x hx
      unfold cutD at hx
      obtain ⟨i, _, rfl⟩ := List.mem_map.mp (List.mem_of_mem_drop (List.mem_of_mem_take hx))
      exact ⟨i, rfl⟩
    have hne : cutD (ns.map D.int) (some (top : Int)) (some 63) ≠ [] → top < ns.length := by
      intro h
      apply Classical.byContradiction
      intro hn
      apply h
      unfold cutD
      rw [sIx_top, List.length_map, List.drop_eq_nil_of_le (by rw [List.length_map]; omega), List.take_nil]
    have hLl : (cutD (ns.map D.int) (some (top : Int)) (some 63)).length ≤ 63 := by
      unfold cutD
      rw [List.length_take, List.length_drop, List.length_map]
      omega
    generalize hL : cutD (ns.map D.int) (some (top : Int)) (some 63) = L at hcut hne hLl ⊢
    refine ⟨fun rest env2 T2 => (∀ d ∈ rest, ∃ (k : Nat) (i : Int), d = .tup [.int k, .int i] ∧ top < ns.length ∧ k < 63) ∧ (∃ x y z, env2 = [some (.ext false (ns.map D.int)), some (.int top), some (.ref m), x, y, z]) ∧ T2.length = T1.length ∧ T2.take T.length = T ∧ ∃ cs2 : List Int, T2[m]? = some (.lst (cs2.map D.int)) ∧ cs2.length = cs.length, ⟨?_, ⟨_, _, _, rfl⟩, rfl, hpre, cs, hcell, rfl⟩, ?_, ?_⟩
    · intro d hd
      obtain ⟨i, x, h1, h2, rfl⟩ := enumL_mem 0 L d hd
      obtain ⟨j, rfl⟩ := hcut x h2
      exact ⟨i, j, by simp, hne (by intro z; rw [z] at h1; simp at h1), by omega⟩
    · rintro d ds env2 T2 ⟨hd, ⟨x, y, z, rfl⟩, hlen, hpre2, cs2, hc2, hl2⟩
      obtain ⟨k, i, rfl, htop, hk63⟩ := hd d (by simp)
      refine ⟨rfl, [some (.ext false (ns.map D.int)), some (.int top), some (.ref m), some (.int k), some (.int i), z], rfl, ?_⟩
      refine ws_asg ?_
      simp only [W, WR, EG, vr_some, WD]
      refine wp_mod (by omega) ⟨_, rfl, ?_⟩
      simp only [ES]
      have o1 : 0 ≤ (k : Int) % top := Int.emod_nonneg _ (by omega)
      have o2 : (k : Int) % top < top := Int.emod_lt_of_pos _ (by omega)
      obtain ⟨j, hj⟩ : ∃ j : Nat, (k : Int) % top = j := ⟨((k : Int) % top).toNat, by omega⟩
      rw [hj]
      have hjl : j < cs2.length := by rw [hl2, c2 htop]; omega
      have sq2 : isSeq T2 (.ref m) = some (cs2.map D.int) := by simp only [isSeq, hc2]
      have hat : L2.atI (cs2.map D.int) (j : Int) = some (.int cs2[j]) := by
        unfold L2.atI L2.ixN
        simp [hjl]
      refine ws_idx ?_
      simp only [W, WR, EG, vr_some]
      refine wp_idx sq2 hat ?_
      refine wp_ok (a := .int (k + 2)) (T' := T2) rfl ?_
      refine wp_mul (mulOk_r (by omega) (by omega)) ?_
      simp only [WD]
      have hmt : m < T2.length := by rw [hlen]; exact hm
      refine wp_ok (a := ()) (T' := T2.set m (.lst ((cs2.set j (cs2[j] + i * (k + 2))).map D.int))) ?_ ?_
      · unfold setIdx
        simp only [hc2]
        have : L2.ixN (cs2.map D.int).length (j : Int) = some j := by
          unfold L2.ixN
          simp [hjl]
        simp only [this, List.map_set]
      refine ws_nil ⟨fun d hd' => hd d (by simp [hd']), ⟨_, _, _, rfl⟩, by rw [List.length_set]; exact hlen, ?_, _, List.getElem?_set_self hmt, by rw [List.length_set]; exact hl2⟩
      rw [List.take_set_of_le hT]
      exact hpre2
    · rintro env2 T2 ⟨_, ⟨x, y, z, rfl⟩, hlen, hpre2, cs2, hc2, hl2⟩
      refine ⟨rfl, ?_⟩
      refine ws_ret ?_
      simp only [W, WR, EG, vr_some]
      refine wp_ok (a := .lst (cs2.map D.int)) (T' := T2.set m .dead) ?_ ?_
      · show frzC m T2 = _
        unfold frzC
        simp only [hc2]
      · have hcl : ∀ (l : List Int), closL T.length (l.map D.int) = true := by
          intro l
          induction l with
          | nil => rfl
          | cons a l ih => simp only [List.map_cons, closL, closD, ih, Bool.and_self]
        rw [gc_take (by rw [List.take_set_of_le hT]; exact hpre2) (by simp only [closD, hcl])]
        exact q cs2 (by omega) (by omega)
  refine ws_asg (we_orT ?_)
  simp only [W, WR, EG, vr_some, WO, D.int.injEq, exists_eq_left']
  refine wp_ok (a := .lst (cutD (ns.map D.int) none (some (top : Int)))) (T' := T) rfl ?_
  simp only [WD, cut_front]
  refine ⟨(ns.map D.int).take top, ?_, fun he => ?_, fun he => ?_⟩
  · unfold isList
    simp
  · refine ⟨rfl, ⟨[.int 0], ?_⟩, _, rfl, ?_⟩
    · unfold isList
      simp
    · simp only [ES]
      have hz : ns.length = 0 := by
        have := congrArg List.length he
        rw [List.length_take, List.length_map] at this
        simp only [List.length_nil] at this
        omega
      refine rest (T ++ [Cell.lst ((ns.map D.int).take top)]).length _ [0] ?_ ?_ ?_ ?_ (by simp) (by simp; omega) (by omega)
      · simp
      · simp
      · rw [List.append_assoc, List.take_left]
      · rw [List.getElem?_append_right (Nat.le_refl _), Nat.sub_self]
        rfl
  · refine ⟨_, rfl, ?_⟩
    simp only [ES]
    have hpos : 0 < ns.length := by
      apply Nat.pos_of_ne_zero
      intro z
      apply he
      rw [List.eq_nil_of_length_eq_zero z]
      simp
    refine rest T.length _ (ns.take top) ?_ (Nat.le_refl _) ?_ ?_ ?_ ?_ ?_
    · simp
    · rw [List.take_left]
    · rw [List.getElem?_append_right (Nat.le_refl _), Nat.sub_self, List.map_take]
      rfl
    · rw [List.length_take]; omega
    · rw [List.length_take]; omega
    · intro h; rw [List.length_take]; omega
/-! ### _law_box -/
def boxBody (b : Int) : List S := [.asg (.name 2) (.ite (.cmp .lt (.var 1) (.blt .len [.var 0])) (.idx (.var 0) (.var 1)) (.int 0)),
    .ret (.mut (.lst [.bin .mul (.blt .abs [.var 2]) (.blt .int [.cmp .ge (.blt .abs [.var 2]) (.bin .pow (.int 10) (.int 18))]), .bin .add (.bin .add (.bin .mod (.blt .int [.var 2]) (.int 2305843009213693951)) (.bin .mul (.int 39373) (.var 1))) (.int b), .int 0]))]
theorem box_wp {P : Prog} {n f : Nat} {fn : Fn} {T : Store} {cs : List Int} {k : Nat} {b : Int} {Q : D → Store → Prop} (hf : P.fns[f]? = some fn) (hb : fn.body = boxBody b) (hp : fn.ps.length = 2) (hN : fn.N.length = 3) (h0 : k < cs.length) (h1 : k < 100) (b0 : 0 ≤ b) (b1 : b < 1000000)
    (q : ∀ T', T'.length = T.length + 1 → T'.take T.length = T → Urn T.length (2 ^ 39) T' → Q (.ref T.length) T') : wp (callN P (n + 1) f [.lst (cs.map D.int), .int k]) T Q := by
  refine wp_fn hf (by rw [hp, hN]; rfl) ?_
  rw [hb, hN]
  show wp (execs P (callN P n) (boxBody b) [some (.lst (cs.map D.int)), some (.int k), none]) T _
  refine ws_asg ?_
  simp only [W, WR, EG, vr_some, WD, br_bl]
  refine ⟨fun _ => ?_, fun h => ?_⟩
  · refine wp_idx (xs := cs.map D.int) (d := .int cs[k]) rfl ?_ ?_
    · unfold L2.atI L2.ixN
      simp [h0]
    refine ⟨_, rfl, ?_⟩
    simp only [ES]
    generalize cs[k] = c
    refine ws_ret ?_
    simp only [W, WR, EG, vr_some, WD]
    refine wp_ok (a := .int (10 ^ 18)) (T' := T) rfl ?_
    simp only [WD]
    refine wp_mul ?_ ?_
    · refine mulOk_r ?_ ?_ <;> split <;> omega
    refine wp_mod (by omega) ?_
    refine wp_mul (mulOk_l (by omega) (by omega)) ?_
    simp only [WD]
    refine ⟨rfl, ?_⟩
    have o1 : 0 ≤ c % 2305843009213693951 := Int.emod_nonneg _ (by omega)
    have o2 : c % 2305843009213693951 < 2305843009213693951 := Int.emod_lt_of_pos _ (by omega)
    have hc : closD T.length (.ref T.length) = false := by
      simp only [closD]
      rw [Bool.eq_false_iff]
      intro h
      rw [Nat.blt_eq] at h
      omega
    have hgc : ∀ g X, gcS g T (T ++ [X]) (.ref T.length) = T ++ [X] := by
      intro g X
      unfold gcS
      rw [hc]
      simp
    rw [hgc]
    refine q _ (by simp) (by rw [List.take_left]) ⟨(if c < 0 then -c else c) * (if (!decide ((if c < 0 then -c else c) < 10 ^ 18)) = true then 1 else 0), c % 2305843009213693951 + 39373 * k + b, 0, ?_, ?_, ?_, ?_, ?_, ?_⟩
    · rw [List.getElem?_append_right (Nat.le_refl _), Nat.sub_self]
      rfl
    · apply Int.mul_nonneg
      · split <;> omega
      · split <;> omega
    · omega
    · omega
    · omega
    · omega
  · exfalso
    rw [decide_eq_false_iff_not, List.length_map] at h
    omega
end Pz

set_option Elab.async false
set_option linter.all false
set_option maxRecDepth 100000
set_option maxHeartbeats 1000000
/-! U3: the law's frame. -/
namespace Pz
open PySem
def lawBody (icells iright ibox : Nat) : List S := [.asg (.name 1) (.call icells [.var 0, .int 3]),
    .ret (.blt .all [.comp [2] (.name 2) (.rng1 (.blt .len [.var 1])) none (.call iright [.call ibox [.var 1, .var 2]])])]
/-- the law holds if each urn is right -/
theorem law_frame {P : Prog} {n f fc fr fb : Nat} {fn cn bn : Fn} {b : Int} {ns : List Int} (hf : P.fns[f]? = some fn) (hb : fn.body = lawBody fc fr fb) (hp : fn.ps.length = 1) (hN : fn.N.length = 3)
    (cf : P.fns[fc]? = some cn) (cb : cn.body = cellsBody) (cp : cn.ps.length = 2) (cN : cn.N.length = 6) (cg : cn.gc = true)
    (bf : P.fns[fb]? = some bn) (bb : bn.body = boxBody b) (bp : bn.ps.length = 2) (bN : bn.N.length = 3) (b0 : 0 ≤ b) (b1 : b < 1000000) (hns : ns.length ≤ 63)
    (right : ∀ (u : Nat) (T : Store), Urn u (2 ^ 39) T → wp (callN P (n + 1) fr [.ref u]) T fun r _ => r = .bl true) : ∃ T', callN P (n + 2) f [.ext false (ns.map D.int)] [] = .ok (.bl true) T' := by
  suffices h : wp (callN P (n + 2) f [.ext false (ns.map D.int)]) [] fun r _ => r = .bl true by
    obtain ⟨r, T', e, rfl⟩ := h
    exact ⟨T', e⟩
  refine wp_fn hf (by rw [hp, hN]; rfl) ?_
  rw [hb, hN]
  show wp (execs P (callN P (n + 1)) (lawBody fc fr fb) [some (.ext false (ns.map D.int)), none, none]) [] _
  refine ws_asg ?_
  simp only [W, WR, EG, vr_some]
  refine cells_wp (top := 3) cf cb cp cN cg (by omega) (by omega) hns fun cs c0 c3 => ⟨_, rfl, ?_⟩
  simp only [ES]
  refine ws_ret ?_
  simp only [W, WR, EG, vr_some]
  have hr : rng1D (.int ((cs.map D.int).length : Nat)) [] = .ok ((upI 0 cs.length).map D.int, []) [] := by
    rw [List.length_map]
    have hs : smallI (cs.length : Nat) = true := by
      unfold smallI
      rw [Bool.and_eq_true]
      exact ⟨decide_eq_true (by omega), decide_eq_true (by omega)⟩
    have := rng1_ok (T := []) hs
    rw [Int.toNat_natCast] at this
    exact this
  refine we_comp (wp_mono (Q := fun w T' => w = ((upI 0 cs.length).map D.int, []) ∧ T' = []) ?_ ?_)
  · simp only [W, WR, EG, vr_some, WD]
    exact wp_ok hr ⟨rfl, rfl⟩
  rintro w T' ⟨rfl, rfl⟩
  refine ⟨fun rest acc T => (∀ d ∈ rest, ∃ k : Nat, d = .int k ∧ k < cs.length) ∧ (∀ d ∈ acc, d = .bl true) ∧ acc.length + rest.length ≤ 3, ⟨?_, by simp, ?_⟩, ?_, ?_⟩
  · intro d hd
    obtain ⟨i, hi, rfl⟩ := List.mem_map.mp hd
    have := upI_mem 0 cs.length i hi
    exact ⟨i.toNat, by rw [Int.toNat_of_nonneg this.1], by omega⟩
  · rw [List.length_map, upI_len]
    simpa using c3
  · rintro d ds acc T ⟨h1, h2, h3⟩
    obtain ⟨k, rfl, hk⟩ := h1 d (by simp)
    refine ⟨rfl, [some (.ext false (ns.map D.int)), some (.lst (cs.map D.int)), some (.int k)], rfl, wc_none ⟨fun _ => ?_, fun z => by cases z⟩⟩
    simp only [W, WR, EG, vr_some]
    refine box_wp bf bb bp bN hk (by omega) b0 b1 fun T' _ _ hu => ?_
    refine wp_mono (right _ T' hu) fun r T2 hr => ?_
    subst hr
    simp only [List.length_cons] at h3
    refine ⟨by rw [Nat.blt_eq]; exact Nat.lt_of_lt_of_le (show acc.length < 3 by omega) (by decide), fun d hd => h1 d (by simp [hd]), ?_, by simp; omega⟩
    intro d hd
    rcases List.mem_append.mp hd with hd | hd
    · exact h2 d hd
    · simpa using hd
  · rintro acc T ⟨_, h2, _⟩
    refine ⟨rfl, ?_⟩
    have hbs : ∀ (l : List D), (∀ d ∈ l, d = .bl true) → ∃ bs, boolsD l = some bs ∧ bs.all id = true := by
      intro l
      induction l with
      | nil => exact fun _ => ⟨[], rfl, rfl⟩
      | cons d l ih =>
        intro h
        obtain ⟨bs, e1, e2⟩ := ih fun d hd => h d (by simp [hd])
        have := h d (by simp)
        subst this
        exact ⟨true :: bs, by simp only [boolsD, e1], by simpa using e2⟩
    obtain ⟨bs, e1, e2⟩ := hbs acc h2
    refine wp_ok (a := .bl true) (T' := T) ?_ rfl
    show withB acc (fun bs => .ok (.bl (bs.all id)) T) = _
    unfold withB
    rw [e1]
    simp only [e2]
end Pz

set_option Elab.async false
set_option linter.all false
set_option maxRecDepth 100000
set_option maxHeartbeats 1000000
/-! U4: tags. -/
namespace Pz
open PySem
abbrev letters : Str := "abcdefghijklmnopqrstuvwxyz"
theorem atI_at {α : Type} {xs : List α} {m : Nat} (h : m < xs.length) : L2.atI xs (m : Int) = some xs[m] := by
  unfold L2.atI L2.ixN
  simp [h]
theorem letters_at {T : Store} {m : Nat} (h : m < 26) : ∃ c, idxD (.str letters) (.int m) T = .ok (.str ⟨#[c]⟩) T := by
  have hl : letters.cps.toList.length = 26 := by decide +kernel
  have h2 : L2.atI letters.cps.toList (m : Int) = some (letters.cps.toList[m]'(by rw [hl]; exact h)) := atI_at (by rw [hl]; exact h)
  refine ⟨letters.cps.toList[m]'(by rw [hl]; exact h), ?_⟩
  have h3 : lim letters.length = true := by decide +kernel
  unfold idxD
  simp only [h2, h3]
theorem wrng {T : Store} {m : Nat} {Q : Walk → Store → Prop} (hm : m < 2 ^ 60) (q : Q ((upI 0 m).map D.int, []) T) : wp (rng1D (.int m)) T Q := by
  have hs : smallI (m : Nat) = true := by
    unfold smallI
    rw [Bool.and_eq_true]
    exact ⟨decide_eq_true (by omega), decide_eq_true (by omega)⟩
  have := rng1_ok (T := T) hs
  rw [Int.toNat_natCast] at this
  exact wp_ok this q
/-- what a call leaves, the urn drawn from -/
theorem gc_keep {g : Bool} {u k : Nat} {T T' : Store} {d : D} (hl : u < T.length) (h : Keep u T T') (hu : Urn u k T') : ∃ T9, gcS g T T' d = T9 ∧ Keep u T T9 ∧ Urn u k T9 := by
  unfold gcS
  cases hb : g && closD T.length d && sameS (T'.take T.length) T with
  | false => exact ⟨T', rfl, h, hu⟩
  | true =>
    refine ⟨_, rfl, ⟨by rw [List.length_take]; have := h.1; omega, fun i hi hu => ?_⟩, ?_⟩
    · rw [List.getElem?_take_of_lt hi]
      exact h.2 i hi hu
    · obtain ⟨a, b, c, h1, r⟩ := hu
      exact ⟨a, b, c, by rw [List.getElem?_take_of_lt hl]; exact h1, r⟩
theorem ins_strs (x : Str) : ∀ (l : List Str), ∃ ts : List Str, insD (.str x) (l.map D.str) = ts.map D.str ∧ ts.length = l.length + 1 ∧ ∀ z ∈ ts, z = x ∨ z ∈ l
  | [] => ⟨[x], rfl, rfl, by simp⟩
  | y :: l => by
    simp only [List.map_cons, insD]
    cases lessD (.str y) (.str x) with
    | false => exact ⟨x :: y :: l, rfl, by simp, by simp⟩
    | true =>
      obtain ⟨ts, e1, e2, e3⟩ := ins_strs x l
      refine ⟨y :: ts, by simp only [e1, List.map_cons], by simp [e2], ?_⟩
      intro z hz
      rcases List.mem_cons.mp hz with rfl | hz
      · simp
      · rcases e3 z hz with h | h
        · exact .inl h
        · exact .inr (by simp [h])
theorem sort_strs : ∀ (l : List Str), ∃ ts : List Str, sortD (l.map D.str) = ts.map D.str ∧ ts.length = l.length ∧ ∀ z ∈ ts, z ∈ l
  | [] => ⟨[], rfl, rfl, by simp⟩
  | x :: l => by
    obtain ⟨ts, e1, e2, e3⟩ := sort_strs l
    obtain ⟨us, f1, f2, f3⟩ := ins_strs x ts
    refine ⟨us, by simp only [List.map_cons, sortD, e1, f1], by simp [f2, e2], ?_⟩
    intro z hz
    rcases f3 z hz with h | h
    · simp [h]
    · simp [e3 z h]
def tagsBody (it io : Nat) : List S := [.asg (.tup [.name 4, .name 2]) (.tup [.str "abcdefghijklmnopqrstuvwxyz", .call it [.var 0, .int 3]]),
    .par2 5 6 (.call it [.var 0, .int 26]) (.call io [.var 0, .lst [.int 1, .int 3, .int 7, .int 11, .int 25]]),
    .asg (.name 2) (.mth .join (.str "") [.comp [10] (.name 10) (.rng1 (.ite (.cmp .gt (.var 2) (.int 0)) (.call it [.var 0, .int 8]) (.int 0))) none (.idx (.var 4) (.call it [.var 0, .int 26]))]),
    .par2 7 8 (.call it [.var 0, .bin .add (.blt .len [.var 2]) (.int 1)]) (.mut (.lst [])),
    .loop (.name 3) (.rng1 (.var 1)) [.asg (.name 9) (.idx (.var 4) (.bin .mod (.blt .int [.bin .add (.var 5) (.bin .mul (.var 6) (.var 3))]) (.int 26))),
    .expr (.mth .append (.var 8) [.bin .add (.bin .add (.slc (.var 2) none (some (.var 7))) (.var 9)) (.slc (.var 2) (some (.var 7)) none)])],
    .ret (.blt .sorted [.var 8])]
theorem cutS_len (z : Str) (lo hi : Option Int) : (L2.cutS z lo hi).length ≤ z.length := by
  unfold L2.cutS
  show (_ : List Nat).toArray.size ≤ z.length
  rw [List.size_toArray, List.length_take, List.length_drop, Array.length_toList]
  have : z.cps.size = z.length := rfl
  omega
theorem cutS_front (z : Str) (a : Nat) : (L2.cutS z none (some (a : Int))).length = min a z.length := by
  unfold L2.cutS
  show (_ : List Nat).toArray.size = _
  rw [List.size_toArray, List.length_take, List.length_drop, Array.length_toList, sIx_top]
  have : z.cps.size = z.length := rfl
  have e : HT.sIx z.length 0 none = 0 := rfl
  omega
theorem cutS_back (z : Str) (a : Nat) : (L2.cutS z (some (a : Int)) none).length = z.length - a := by
  unfold L2.cutS
  show (_ : List Nat).toArray.size = _
  rw [List.size_toArray, List.length_take, List.length_drop, Array.length_toList, sIx_top]
  have : z.cps.size = z.length := rfl
  have e : HT.sIx z.length z.length none = z.length := rfl
  omega
theorem tags_wp {P : Prog} {n f ft fo u k many : Nat} {fn tn on : Fn} {T : Store} {Q : D → Store → Prop} (hf : P.fns[f]? = some fn) (hb : fn.body = tagsBody ft fo) (hp : fn.ps.length = 2) (hN : fn.N.length = 11)
    (tf : P.fns[ft]? = some tn) (tb : tn.body = takeBody) (tp : tn.ps.length = 2) (tN : tn.N.length = 6) (of : P.fns[fo]? = some on) (ob : on.body = ofBody ft) (op : on.ps.length = 2) (oN : on.N.length = 2) (hu : Urn u (k + 14) T) (hm : many ≤ 100)
    (q : ∀ (ss : List Str) T', ss.length = many → (∀ x ∈ ss, x.length ≤ 8) → Keep u T T' → Urn u k T' → Q (.lst (ss.map D.str)) T') : wp (callN P (n + 3) f [.ref u, .int many]) T Q := by
  refine wp_fn hf (by rw [hp, hN]; rfl) ?_
  rw [hb, hN]
  show wp (execs P (callN P (n + 2)) (tagsBody ft fo) [some (.ref u), some (.int many), none, none, none, none, none, none, none, none, none]) T _
  refine ws_asg ?_
  simp only [W, WR, EG, vr_some]
  refine take_wp (k := k + 13) tf tb tp tN hu (by omega) (by decide) fun r1 T1 a0 a1 k1 _ u1 => ?_
  refine ⟨rfl, _, rfl, ?_⟩
  simp only [ES]
  refine ws_par2 ?_
  simp only [W, WR, EG, vr_some]
  refine take_wp (k := k + 12) tf tb tp tN u1 (by omega) (by decide) fun r2 T2 b0 b1 k2 _ u2 => ?_
  refine ⟨rfl, ?_⟩
  refine ofI_wp (k := k + 11) of ob op oN tf tb tp tN u2 (by simp) (by simp) fun by_ T3 hby k3 _ u3 => ?_
  obtain ⟨r3, rfl, c0, c1⟩ : ∃ r3 : Int, by_ = .int r3 ∧ 0 ≤ r3 ∧ r3 ≤ 25 := by
    simp only [List.mem_cons, List.not_mem_nil, or_false] at hby
    rcases hby with rfl | rfl | rfl | rfl | rfl <;> exact ⟨_, rfl, by omega, by omega⟩
  simp only [ES]
  have k03 := (k1.trans k2).trans k3
  clear k1 k2 k3 u1 u2
  refine ws_asg ?_
  refine we_mth ?_
  simp only [W]
  refine ⟨rfl, ?_⟩
  refine we_comp ?_
  -- how many signs
  have hr : wp (evalI P (callN P (n + 2)) (.rng1 (.ite (.cmp .gt (.var 2) (.int 0)) (.call ft [.var 0, .int 8]) (.int 0))) [some (.ref u), some (.int many), some (.int r1), none, some (.str letters), some (.int r2), some (.int r3), none, none, none, none]) T3 fun w T' => ∃ m : Nat, m < 8 ∧ w = ((upI 0 m).map D.int, []) ∧ Keep u T3 T' ∧ Urn u (k + 10) T' := by
    simp only [W, WR, EG, vr_some, WD, br_bl]
    refine ⟨fun _ => ?_, fun _ => ?_⟩
    · refine take_wp (k := k + 10) tf tb tp tN u3 (by omega) (by decide) fun r T4 d0 d1 k4 _ u4 => ?_
      obtain ⟨m, rfl⟩ : ∃ m : Nat, r = m := ⟨r.toNat, by omega⟩
      exact wrng (by omega) ⟨m, by omega, rfl, k4, u4⟩
    · exact wrng (m := 0) (by omega) ⟨0, by omega, rfl, Keep.refl, u3.less (by omega)⟩
  refine wp_mono hr fun w T4 hw => ?_
  obtain ⟨m, hm8, rfl, k4, u4⟩ := hw
  refine ⟨fun rest acc T' => (∃ zs : List Str, acc = zs.map D.str ∧ ∀ z ∈ zs, z.length = 1) ∧ acc.length + rest.length = m ∧ Keep u T4 T' ∧ Urn u (k + 2 + rest.length) T', ⟨⟨[], rfl, by simp⟩, by simp [upI_len], Keep.refl, ?_⟩, ?_, ?_⟩
  · rw [List.length_map, upI_len]
    exact u4.less (by omega)
  · rintro x xs acc T5 ⟨⟨zs, rfl, hz⟩, hl, k5, u5⟩
    refine ⟨rfl, [some (.ref u), some (.int many), some (.int r1), none, some (.str letters), some (.int r2), some (.int r3), none, none, none, some x], rfl, wc_none ⟨fun _ => ?_, fun z => by cases z⟩⟩
    simp only [W, WR, EG, vr_some]
    simp only [List.length_cons] at hl u5
    refine take_wp (k := k + 2 + xs.length) tf tb tp tN (u5.less (by omega)) (by omega) (by decide) fun r T6 d0 d1 k6 _ u6 => ?_
    obtain ⟨j, rfl⟩ : ∃ j : Nat, r = j := ⟨r.toNat, by omega⟩
    obtain ⟨c, hc⟩ := letters_at (T := T6) (m := j) (by omega)
    refine wp_ok hc ⟨?_, ⟨zs ++ [⟨#[c]⟩], by simp, ?_⟩, ?_, k5.trans k6, u6⟩
    · rw [Nat.blt_eq]
      exact Nat.lt_of_lt_of_le (show _ < 8 by omega) (by decide)
    · intro z hz'
      rcases List.mem_append.mp hz' with h | h
      · exact hz z h
      · simp only [List.mem_singleton] at h
        subst h
        rfl
    · simp only [List.length_append, List.length_cons, List.length_nil]
      omega
  rintro acc T5 ⟨⟨zs, rfl, hz⟩, hl, k5, u5⟩
  simp only [List.length_nil, List.length_map, Nat.add_zero] at hl u5
  refine ⟨rfl, ?_⟩
  -- the stem
  have hjl : (Txt.join "" zs).length = m := (PySem.W.KT.join_ones zs hz).trans hl
  generalize hst : Txt.join "" zs = stem at hjl
  have hsum : ((zs.map (·.length)).sum + zs.length * ("" : Str).length) ≤ 16777216 := by
    have e1 : (zs.map (·.length)).sum = zs.length := by
      clear hl hst
      induction zs with
      | nil => rfl
      | cons z zs ih =>
        rw [List.map_cons, List.sum_cons, ih fun y hy => hz y (by simp [hy]), hz z (by simp), List.length_cons]
        omega
    have e2 : ("" : Str).length = 0 := by decide
    rw [e1, e2]
    omega
  have hjoin : mthD .join (.str "") [.lst (zs.map D.str)] T5 = .ok (.str stem) T5 := by
    have e1 : ∀ l : List Str, strsD (l.map D.str) = some l := by
      intro l
      induction l with
      | nil => rfl
      | cons a l ih => simp only [List.map_cons, strsD, ih]
    show joinD (.str "") [.lst (zs.map D.str)] T5 = _
    unfold joinD
    simp only [isSeq, e1]
    rw [show Nat.ble ((zs.map (·.length)).sum + zs.length * ("" : Str).length) 16777216 = true from Nat.ble_eq.mpr hsum, hst]
    rfl
  refine wp_ok hjoin ⟨_, rfl, ?_⟩
  simp only [ES]
  clear hjoin hsum hst hz hl zs hr
  have k05 := (k03.trans k4).trans k5
  clear k03 k4 k5 u3 u4
  refine ws_par2 ?_
  simp only [W, WR, EG, vr_some]
  have hlim : lim stem.length = true := by
    unfold lim
    rw [Nat.ble_eq, hjl]
    exact Nat.le_trans (show m ≤ 8 by omega) (by decide)
  have hlen : bltD .len [.str stem] T5 = .ok (.int stem.length) T5 := by
    show lenD T5 (.str stem) = _
    unfold lenD
    simp only [hlim]
    rfl
  refine wp_ok hlen ?_
  simp only [WD]
  refine take_wp (k := k + 1) tf tb tp tN u5 (by omega) ?_ fun at_ T6 e0 e1 k6 l6 u6 => ?_
  · rw [hjl]
    have : ((m : Int) + 1).natAbs = m + 1 := by omega
    rw [this]
    have := Nat.log2_lt (n := m + 1) (k := 60) (by omega)
    omega
  obtain ⟨at_, rfl⟩ : ∃ a : Nat, at_ = a := ⟨at_.toNat, by omega⟩
  refine ⟨rfl, ?_⟩
  simp only [ES]
  have k06 := k05.trans k6
  have hul := u6.lt
  refine ws_loop ?_
  simp only [W, WR, EG, vr_some]
  refine wrng (by omega) ?_
  refine ⟨fun rest env2 T' => (∀ d ∈ rest, ∃ j : Nat, d = .int j ∧ j < many) ∧ (∃ x y, env2 = [some (.ref u), some (.int many), some (.str stem), x, some (.str letters), some (.int r2), some (.int r3), some (.int at_), some (.ref T6.length), y, none]) ∧ ∃ ss : List Str, T' = T6 ++ [.lst (ss.map D.str)] ∧ ss.length + rest.length = many ∧ ∀ z ∈ ss, z.length ≤ 8, ⟨?_, ⟨_, _, rfl⟩, [], rfl, by simp [upI_len], by simp⟩, ?_, ?_⟩
  · intro d hd
    obtain ⟨i, hi, rfl⟩ := List.mem_map.mp hd
    have := upI_mem 0 many i hi
    exact ⟨i.toNat, by rw [Int.toNat_of_nonneg this.1], by omega⟩
  · rintro x xs env2 T7 ⟨h1, ⟨y, z, rfl⟩, ss, rfl, hl, h8⟩
    obtain ⟨j, rfl, hj⟩ := h1 x (by simp)
    refine ⟨rfl, [some (.ref u), some (.int many), some (.str stem), some (.int j), some (.str letters), some (.int r2), some (.int r3), some (.int at_), some (.ref T6.length), z, none], rfl, ?_⟩
    refine ws_asg ?_
    simp only [W, WR, EG, vr_some]
    refine wp_mul (mulOk_l (by omega) (by omega)) ?_
    simp only [WD]
    refine wp_mod (by omega) ?_
    have o1 : 0 ≤ (r2 + r3 * j) % 26 := Int.emod_nonneg _ (by omega)
    have o2 : (r2 + r3 * j) % 26 < 26 := Int.emod_lt_of_pos _ (by omega)
    obtain ⟨v, hv⟩ : ∃ v : Nat, (r2 + r3 * j) % 26 = v := ⟨((r2 + r3 * j) % 26).toNat, by omega⟩
    rw [hv]
    obtain ⟨c, hc⟩ := letters_at (T := T6 ++ [.lst (ss.map D.str)]) (m := v) (by omega)
    refine wp_ok hc ⟨_, rfl, ?_⟩
    simp only [ES]
    refine ws_expr ?_
    simp only [W, WR, EG, vr_some, WO, D.int.injEq, exists_eq_left']
    have hcell : (T6 ++ [Cell.lst (ss.map D.str)])[T6.length]? = some (.lst (ss.map D.str)) := by
      rw [List.getElem?_append_right (Nat.le_refl _), Nat.sub_self]
      rfl
    refine ⟨by simp only [tyOk, isList, hcell]; rfl, ?_⟩
    have hs : ∀ lo hi, slcD (.str stem) lo hi (T6 ++ [.lst (ss.map D.str)]) = .ok (.str (L2.cutS stem lo hi)) (T6 ++ [.lst (ss.map D.str)]) := by
      intro lo hi
      show okIf (lim stem.length) _ _ = _
      rw [hlim]
      rfl
    refine wp_ok (hs _ _) ?_
    have hadd : ∀ (a b : Str) T, a.length + b.length ≤ 1000 → opD .add (.str a) (.str b) T = .ok (.str (a ++ b)) T := by
      intro a b T h
      show okIf (lim (a.length + b.length)) _ _ = _
      rw [show lim (a.length + b.length) = true from Nat.ble_eq.mpr (Nat.le_trans h (by decide))]
      rfl
    have g1 := cutS_front stem at_
    have g2 := cutS_back stem at_
    have g3 : (⟨#[c]⟩ : Str).length = 1 := rfl
    refine wp_ok (hadd _ _ _ (by omega)) ?_
    refine wp_ok (hs _ _) ?_
    have g4 : (L2.cutS stem none (some at_) ++ (⟨#[c]⟩ : Str)).length = (L2.cutS stem none (some at_)).length + 1 := PySem.Str.length_append _ _
    refine wp_ok (hadd _ _ _ (by omega)) ?_
    have g5 := PySem.Str.length_append (L2.cutS stem none (some (at_ : Int)) ++ (⟨#[c]⟩ : Str)) (L2.cutS stem (some (at_ : Int)) none)
    generalize L2.cutS stem none (some (at_ : Int)) ++ (⟨#[c]⟩ : Str) ++ L2.cutS stem (some (at_ : Int)) none = tag at g5
    simp only [List.length_cons] at hl
    refine wp_ok (a := .non) (T' := T6 ++ [.lst ((ss ++ [tag]).map D.str)]) ?_ ?_
    · show appD (.ref T6.length) [.str tag] _ = _
      unfold appD
      simp only [hcell]
      rw [show Nat.blt (ss.map D.str).length sizeLine = true from by rw [Nat.blt_eq, List.length_map]; exact Nat.lt_of_lt_of_le (show ss.length < 1000 by omega) (by decide)]
      simp [okIf]
    refine ws_nil ⟨fun d hd => h1 d (by simp [hd]), ⟨_, _, rfl⟩, ss ++ [tag], rfl, by simp; omega, ?_⟩
    intro z hz
    rcases List.mem_append.mp hz with h | h
    · exact h8 z h
    · simp only [List.mem_singleton] at h
      subst h
      omega
  · rintro env2 T7 ⟨_, ⟨y, z, rfl⟩, ss, rfl, hl, h8⟩
    refine ⟨rfl, ?_⟩
    refine ws_ret ?_
    simp only [W, WR, EG, vr_some]
    have hcell : (T6 ++ [Cell.lst (ss.map D.str)])[T6.length]? = some (.lst (ss.map D.str)) := by
      rw [List.getElem?_append_right (Nat.le_refl _), Nat.sub_self]
      rfl
    have hall : (ss.map D.str).all isStrD = true := by
      rw [List.all_map, List.all_eq_true]
      exact fun _ _ => rfl
    obtain ⟨ts, e1, e2, e3⟩ : ∃ ts : List Str, sortD (ss.map D.str) = ts.map D.str ∧ ts.length = ss.length ∧ ∀ z ∈ ts, z ∈ ss := sort_strs ss
    have hsort : bltD .sorted [.ref T6.length] (T6 ++ [.lst (ss.map D.str)]) = .ok (.lst (ts.map D.str)) (T6 ++ [.lst (ss.map D.str)]) := by
      show blt1 .sorted (.ref T6.length) _ = _
      unfold blt1
      simp only [isSeq, hcell]
      rw [show okSort (ss.map D.str) = true from by unfold okSort; rw [hall]; simp, e1]
      rfl
    refine wp_ok hsort ?_
    simp only [List.length_nil, Nat.add_zero] at hl
    have hlow : Urn u k (T6 ++ [.lst (ss.map D.str)]) := (u6.less (by omega)).app
    have hkp : Keep u T (T6 ++ [.lst (ss.map D.str)]) := k06.trans Keep.app
    have hgc : ∃ T9, gcS fn.gc T (T6 ++ [.lst (ss.map D.str)]) (.lst (ts.map D.str)) = T9 ∧ Keep u T T9 ∧ Urn u k T9 := gc_keep hu.lt hkp hlow
    obtain ⟨T9, e9, k9, u9⟩ := hgc
    rw [e9]
    exact q ts T9 (by omega) (fun z hz => h8 z (e3 z hz)) k9 u9
end Pz

set_option Elab.async false
set_option linter.all false
set_option maxRecDepth 100000
set_option maxHeartbeats 1000000
/-! U5: drawn rows. -/
namespace Pz
open PySem
abbrev Row : Type := List Int × Int
def keyD (vs : List Int) : D := .tup (vs.map D.int)
def rowD (r : Row) : D := .tup [keyD r.1, .int r.2]
def poolBody (it : Nat) : List S := [.asg (.name 4) (.mut (.lst [])),
    .loop (.name 5) (.rng1 (.call it [.var 0, .bin .add (.var 2) (.int 1)])) [.expr (.mth .append (.var 4) [.tup [.blt .tuple [.comp [6] (.name 6) (.rng1 (.var 1)) none (.call it [.var 0, .var 3])], .call it [.var 0, .int 10]]])],
    .ret (.bin .add (.var 4) (.slc (.var 4) none (some (.call it [.var 0, .int 3]))))]
/-- rows as they are drawn -/
def Drawn (wide : Nat) (high : Int) (r : Row) : Prop := r.1.length = wide ∧ (∀ v ∈ r.1, 0 ≤ v ∧ v < high) ∧ 0 ≤ r.2 ∧ r.2 < 10
theorem nums_wp {P : Prog} {n ft u k wide : Nat} {tn : Fn} {T : Store} {env : Env} {high : Int} {Q : D → Store → Prop} {e1 e2 e3 e4 e5 : Option D} {x6 : Option D} (tf : P.fns[ft]? = some tn) (tb : tn.body = takeBody) (tp : tn.ps.length = 2) (tN : tn.N.length = 6) (hw : wide ≤ 1000) (h0 : 0 < high) (h1 : high < 2 ^ 60) (hu : Urn u (k + wide) T)
    (he : env = [some (.ref u), some (.int wide), e2, some (.int high), e4, e5, x6])
    (q : ∀ (vs : List Int) T', vs.length = wide → (∀ v ∈ vs, 0 ≤ v ∧ v < high) → Keep u T T' → T'.length = T.length → Urn u k T' → Q (.lst (vs.map D.int)) T') : wp (evalE P (callN P (n + 1)) (.comp [6] (.name 6) (.rng1 (.var 1)) none (.call ft [.var 0, .var 3])) env) T Q := by
  subst he
  refine we_comp (wp_mono (Q := fun w T' => w = ((upI 0 wide).map D.int, []) ∧ T' = T) ?_ ?_)
  · simp only [W, WR, EG, vr_some]
    exact wrng (by omega) ⟨rfl, rfl⟩
  rintro w T' ⟨rfl, rfl⟩
  refine ⟨fun rest acc T1 => (∃ vs : List Int, acc = vs.map D.int ∧ ∀ v ∈ vs, 0 ≤ v ∧ v < high) ∧ acc.length + rest.length = wide ∧ Keep u T' T1 ∧ T1.length = T'.length ∧ Urn u (k + rest.length) T1, ⟨⟨[], rfl, by simp⟩, by simp [upI_len], Keep.refl, rfl, ?_⟩, ?_, ?_⟩
  · rw [List.length_map, upI_len]
    exact hu
  · rintro x xs acc T1 ⟨⟨vs, rfl, hv⟩, hl, k1, l1, u1⟩
    refine ⟨rfl, [some (.ref u), some (.int wide), e2, some (.int high), e4, e5, some x], rfl, wc_none ⟨fun _ => ?_, fun z => by cases z⟩⟩
    simp only [W, WR, EG, vr_some]
    simp only [List.length_cons] at hl u1
    have hlog : high.natAbs.log2 < 9000 := by
      have := Nat.log2_lt (n := high.natAbs) (k := 60) (by omega)
      omega
    refine take_wp (k := k + xs.length) tf tb tp tN (u1.less (by omega)) h0 hlog fun r T2 d0 d1 k2 l2 u2 => ?_
    refine ⟨?_, ⟨vs ++ [r], by simp, ?_⟩, ?_, k1.trans k2, l2.trans l1, u2⟩
    · rw [Nat.blt_eq]
      exact Nat.lt_of_lt_of_le (show _ < 1001 by omega) (by decide)
    · intro v hv'
      rcases List.mem_append.mp hv' with h | h
      · exact hv v h
      · simp only [List.mem_singleton] at h
        subst h
        exact ⟨d0, d1⟩
    · simp only [List.length_append, List.length_cons, List.length_nil]
      omega
  · rintro acc T1 ⟨⟨vs, rfl, hv⟩, hl, k1, l1, u1⟩
    simp only [List.length_nil, Nat.add_zero, List.length_map] at hl u1
    exact ⟨rfl, q vs T1 hl hv k1 l1 u1⟩
theorem pool_wp {P : Prog} {n f ft u k wide most : Nat} {fn tn : Fn} {T : Store} {high : Int} {Q : D → Store → Prop} (hf : P.fns[f]? = some fn) (hb : fn.body = poolBody ft) (hp : fn.ps.length = 4) (hN : fn.N.length = 7)
    (tf : P.fns[ft]? = some tn) (tb : tn.body = takeBody) (tp : tn.ps.length = 2) (tN : tn.N.length = 6) (hw : wide ≤ 100) (hmo : most ≤ 100) (h0 : 0 < high) (h1 : high < 2 ^ 60) (hu : Urn u (k + 2 + most * (wide + 1)) T)
    (q : ∀ (rs : List Row) T', rs.length ≤ most + 2 → (∀ r ∈ rs, Drawn wide high r) → Keep u T T' → Urn u k T' → Q (.lst (rs.map rowD)) T') : wp (callN P (n + 2) f [.ref u, .int wide, .int most, .int high]) T Q := by
  refine wp_fn hf (by rw [hp, hN]; rfl) ?_
  rw [hb, hN]
  show wp (execs P (callN P (n + 1)) (poolBody ft) [some (.ref u), some (.int wide), some (.int most), some (.int high), none, none, none]) T _
  have hlt := hu.lt
  refine ws_asg ?_
  simp only [W]
  refine ⟨rfl, ?_⟩
  simp only [WD]
  refine ⟨_, rfl, ?_⟩
  simp only [ES]
  refine ws_loop ?_
  refine wp_mono (Q := fun w T' => ∃ m : Nat, m ≤ most ∧ w = ((upI 0 m).map D.int, []) ∧ Keep u (T ++ [.lst []]) T' ∧ T'.length = T.length + 1 ∧ Urn u (k + 1 + most * (wide + 1)) T') ?_ ?_
  · simp only [W, WR, EG, vr_some, WD]
    refine take_wp (k := k + 1 + most * (wide + 1)) tf tb tp tN (hu.app.less (by omega)) (by omega) ?_ fun r T1 d0 d1 k1 l1 u1 => ?_
    · have : ((most : Int) + 1).natAbs = most + 1 := by omega
      rw [this]
      have := Nat.log2_lt (n := most + 1) (k := 60) (by omega)
      omega
    obtain ⟨m, rfl⟩ : ∃ m : Nat, r = m := ⟨r.toNat, by omega⟩
    exact wrng (by omega) ⟨m, by omega, rfl, k1, by rw [l1]; simp, u1⟩
  rintro w T1 ⟨m, hm, rfl, k1, l1, u1⟩
  have hc1 : T1[T.length]? = some (.lst []) := by
    rw [k1.2 T.length (by simp) (by omega), List.getElem?_append_right (Nat.le_refl _), Nat.sub_self]
    rfl
  refine ⟨fun rest env2 T2 => (∃ x y, env2 = [some (.ref u), some (.int wide), some (.int most), some (.int high), some (.ref T.length), x, y]) ∧ Keep u T T2 ∧ T2.length = T.length + 1 ∧ Urn u (k + 1 + rest.length * (wide + 1)) T2 ∧ ∃ rs : List Row, T2[T.length]? = some (.lst (rs.map rowD)) ∧ rs.length + rest.length = m ∧ ∀ r ∈ rs, Drawn wide high r, ⟨⟨_, _, rfl⟩, Keep.app.trans k1, l1, ?_, [], hc1, by simp [upI_len], by simp⟩, ?_, ?_⟩
  · rw [List.length_map, upI_len]
    have : m * (wide + 1) ≤ most * (wide + 1) := Nat.mul_le_mul_right _ hm
    exact u1.less (by omega)
  · rintro x xs env2 T2 ⟨⟨y, z, rfl⟩, k2, l2, u2, rs, hc, hl, hd⟩
    refine ⟨rfl, [some (.ref u), some (.int wide), some (.int most), some (.int high), some (.ref T.length), some x, z], rfl, ?_⟩
    refine ws_expr ?_
    simp only [List.length_cons] at hl u2
    refine we_mth ?_
    simp only [WR, EG, vr_some]
    refine ⟨by simp only [tyOk, isList, hc]; rfl, wes_cons (we_tup (wes_cons (we_blt (wes_cons ?_))))⟩
    refine nums_wp (k := k + 1 + xs.length * (wide + 1) + 1) (e1 := none) (e3 := none) tf tb tp tN (by omega) h0 h1 (u2.less (by rw [Nat.add_mul]; omega)) rfl fun vs T3 hvl hv k3 l3 u3 => ?_
    simp only [W, WD, WR, EG, vr_some]
    refine take_wp (k := k + 1 + xs.length * (wide + 1)) tf tb tp tN u3 (by omega) (by decide) fun r T4 d0 d1 k4 l4 u4 => ?_
    refine ⟨rfl, ?_⟩
    have k24 := k3.trans k4
    have hc4 : T4[T.length]? = some (.lst (rs.map rowD)) := by
      rw [k24.2 T.length (by omega) (by omega)]
      exact hc
    have l4' : T4.length = T.length + 1 := by omega
    refine wp_ok (a := .non) (T' := T4.set T.length (.lst ((rs ++ [(vs, r)]).map rowD))) ?_ ?_
    · show appD (.ref T.length) [.tup [.tup (vs.map D.int), .int r]] _ = _
      unfold appD
      simp only [hc4]
      rw [show Nat.blt (rs.map rowD).length sizeLine = true from by rw [Nat.blt_eq, List.length_map]; exact Nat.lt_of_lt_of_le (show rs.length < 1000 by omega) (by decide)]
      simp [okIf, rowD, keyD]
    have hkS : Keep u T (T4.set T.length (.lst ((rs ++ [(vs, r)]).map rowD))) := ⟨by rw [List.length_set]; omega, fun i hi hne => by
      rw [List.getElem?_set_ne (by omega)]
      exact (k2.trans k24).2 i hi hne⟩
    refine ws_nil ⟨⟨_, _, rfl⟩, hkS, by rw [List.length_set]; exact l4', ?_, rs ++ [(vs, r)], List.getElem?_set_self (by omega), by simp; omega, ?_⟩
    · obtain ⟨a, b, c, g1, g⟩ := u4
      exact ⟨a, b, c, by rw [List.getElem?_set_ne (by omega)]; exact g1, g⟩
    · intro r' hr'
      rcases List.mem_append.mp hr' with h | h
      · exact hd r' h
      · simp only [List.mem_singleton] at h
        subst h
        exact ⟨hvl, hv, d0, d1⟩
  · rintro env2 T2 ⟨⟨y, z, rfl⟩, k2, l2, u2, rs, hc, hl, hd⟩
    refine ⟨rfl, ?_⟩
    simp only [List.length_nil, Nat.zero_mul, Nat.add_zero] at hl u2
    refine ws_ret ?_
    simp only [W, WR, EG, vr_some, WO]
    refine take_wp (k := k) tf tb tp tN u2 (by omega) (by decide) fun r T3 d0 d1 k3 l3 u3 => ?_
    obtain ⟨j, rfl⟩ : ∃ j : Nat, r = j := ⟨r.toNat, by omega⟩
    have hc3 : T3[T.length]? = some (.lst (rs.map rowD)) := by
      rw [k3.2 T.length (by omega) (by omega)]
      exact hc
    refine ⟨_, rfl, ?_⟩
    have hil : isList T3 (.ref T.length) = some (rs.map rowD) := by simp only [isList, hc3]
    refine wp_ok (a := .lst ((rs.take j).map rowD)) (T' := T3) ?_ ?_
    · show (match isList T3 (.ref T.length) with
        | some xs => Res.ok (D.lst (cutD xs none (some (j : Int)))) T3
        | none => .bad) = _
      rw [hil]
      simp only [cut_front, List.map_take]
    refine wp_ok (a := .lst ((rs ++ rs.take j).map rowD)) (T' := T3) ?_ ?_
    · show (match isList T3 (.ref T.length), isList T3 (.lst ((rs.take j).map rowD)) with
        | some a, some b => okIf (lim (a.length + b.length)) (D.lst (a ++ b)) T3
        | _, _ => .bad) = _
      rw [hil]
      simp only [isList]
      rw [show lim ((rs.map rowD).length + ((rs.take j).map rowD).length) = true from by
        unfold lim
        rw [Nat.ble_eq, List.length_map, List.length_map, List.length_take]
        exact Nat.le_trans (show _ ≤ 1000 by omega) (by decide)]
      simp [okIf]
    obtain ⟨T9, e9, k9, u9⟩ := gc_keep (g := fn.gc) (d := .lst ((rs ++ rs.take j).map rowD)) hlt (k2.trans k3) u3
    rw [e9]
    refine q _ T9 (by rw [List.length_append, List.length_take]; omega) ?_ k9 u9
    intro r' hr'
    rcases List.mem_append.mp hr' with h | h
    · exact hd r' h
    · exact hd r' (List.mem_of_mem_take h)
end Pz

set_option Elab.async false
set_option linter.all false
set_option maxRecDepth 100000
set_option maxHeartbeats 1000000
/-! U6: rows added up. -/
namespace Pz
open PySem
def getF (kvs : List Row) (k : List Int) : Option Int := match kvs with
  | [] => none
  | r :: rs => if r.1 = k then some r.2 else getF rs k
def setF' (kvs : List Row) (k : List Int) (v : Int) : List Row := match kvs with
  | [] => []
  | r :: rs => if r.1 = k then (r.1, v) :: setF' rs k v else r :: setF' rs k v
def putF (kvs : List Row) (k : List Int) (v : Int) : List Row := if (getF kvs k).isSome then setF' kvs k v else kvs ++ [(k, v)]
def kvD (r : Row) : D × D := (keyD r.1, .int r.2)
theorem keyAll : ∀ (a b : List Int), keyEq.all (a.map D.int) (b.map D.int) = decide (a = b)
  | [], [] => rfl
  | [], _ :: _ => by simp [keyEq.all]
  | _ :: _, [] => by simp [keyEq.all]
  | x :: a, y :: b => by
    simp only [List.map_cons, keyEq.all, keyAll a b, keyEq]
    rw [Bool.eq_iff_iff]
    simp
theorem keyEq_keyD (a b : List Int) : keyEq (keyD a) (keyD b) = decide (a = b) := by
  unfold keyD
  rw [keyEq]
  exact keyAll a b
theorem dget_kv (k : List Int) : ∀ (kvs : List Row), dget (kvs.map kvD) (keyD k) = (getF kvs k).map D.int
  | [] => rfl
  | r :: rs => by
    simp only [List.map_cons, kvD, dget, keyEq_keyD, getF]
    by_cases h : r.1 = k
    · simp [h]
    · simp only [h, decide_false, if_false]
      exact dget_kv k rs
theorem dhas_kv (k : List Int) : ∀ (kvs : List Row), dhas (kvs.map kvD) (keyD k) = (getF kvs k).isSome
  | [] => rfl
  | r :: rs => by
    simp only [List.map_cons, kvD, dhas, keyEq_keyD, getF]
    by_cases h : r.1 = k
    · simp [h]
    · simp only [h, decide_false, if_false, Bool.false_or]
      exact dhas_kv k rs
theorem dset_kv (k : List Int) (v : Int) : ∀ (kvs : List Row), dset (kvs.map kvD) (keyD k) (.int v) = (setF' kvs k v).map kvD
  | [] => rfl
  | r :: rs => by
    have ih := dset_kv k v rs
    simp only [List.map_cons, kvD, dset, keyEq_keyD, setF'] at ih ⊢
    by_cases h : r.1 = k
    · simp only [h, decide_true, if_true, List.map_cons]
      rw [← ih]
      rfl
    · simp only [h, decide_false, if_false, List.map_cons]
      rw [← ih]
      rfl
theorem dput_kv (kvs : List Row) (k : List Int) (v : Int) : dput (kvs.map kvD) (keyD k) (.int v) = (putF kvs k v).map kvD := by
  unfold dput putF
  rw [dhas_kv]
  cases (getF kvs k).isSome with
  | true => simp only [if_true]; exact dset_kv k v kvs
  | false => simp [kvD]
theorem keyOk_keyD (k : List Int) : keyOk (keyD k) = true := by
  unfold keyD
  simp only [keyOk, List.all_map, List.all_eq_true]
  exact fun _ _ => rfl
/-- the keys stand once each -/
theorem getF_none {kvs : List Row} {k : List Int} : getF kvs k = none ↔ k ∉ kvs.map (·.1) := by
  induction kvs with
  | nil => simp [getF]
  | cons r rs ih =>
    unfold getF
    by_cases h : r.1 = k
    · simp [h]
    · simp only [h, if_false, ih, List.map_cons, List.mem_cons, not_or]
      exact ⟨fun z => ⟨fun e => h e.symm, z⟩, fun z => z.2⟩
theorem setF_keys (k : List Int) (v : Int) : ∀ (kvs : List Row), (setF' kvs k v).map (·.1) = kvs.map (·.1)
  | [] => rfl
  | r :: rs => by
    unfold setF'
    by_cases h : r.1 = k
    · simp [h, setF_keys k v rs]
    · simp [h, setF_keys k v rs]
theorem putF_keys {kvs : List Row} {k : List Int} {v : Int} : (putF kvs k v).map (·.1) = if (getF kvs k).isSome then kvs.map (·.1) else kvs.map (·.1) ++ [k] := by
  unfold putF
  split
  · exact setF_keys k v kvs
  · simp
theorem putF_nodup {kvs : List Row} {k : List Int} {v : Int} (h : (kvs.map (·.1)).Nodup) : ((putF kvs k v).map (·.1)).Nodup := by
  rw [putF_keys]
  split
  · exact h
  · rename_i hn
    have : getF kvs k = none := by
      cases e : getF kvs k with
      | none => rfl
      | some _ => rw [e] at hn; simp at hn
    rw [List.nodup_append]
    refine ⟨h, by simp, ?_⟩
    intro a ha b hb e
    simp only [List.mem_singleton] at hb
    subst hb
    subst e
    exact getF_none.mp this ha
/-- the fold of the loop -/
def addS (kvs : List Row) (r : Row) : List Row := putF kvs r.1 ((getF kvs r.1).getD 0 + r.2)
def addK (rows : List Row) : List Row := rows.foldl addS []
theorem addK_nodup (rows : List Row) : ((addK rows).map (·.1)).Nodup := by
  unfold addK
  have : ∀ (rows : List Row) (kvs : List Row), (kvs.map (·.1)).Nodup → ((rows.foldl addS kvs).map (·.1)).Nodup := by
    intro rows
    induction rows with
    | nil => exact fun _ h => h
    | cons r rs ih => exact fun kvs h => ih _ (putF_nodup h)
  exact this rows [] (by simp)
theorem addK_mem {rows : List Row} {k : List Int} (h : k ∈ (addK rows).map (·.1)) : k ∈ rows.map (·.1) := by
  have : ∀ (rows : List Row) (kvs : List Row), k ∈ (rows.foldl addS kvs).map (·.1) → k ∈ kvs.map (·.1) ∨ k ∈ rows.map (·.1) := by
    intro rows
    induction rows with
    | nil => exact fun _ h => .inl h
    | cons r rs ih =>
      intro kvs h
      rcases ih _ h with h | h
      · unfold addS at h
        rw [putF_keys] at h
        split at h
        · exact .inl h
        · rcases List.mem_append.mp h with h | h
          · exact .inl h
          · simp only [List.mem_singleton] at h
            exact .inr (by simp [h])
      · exact .inr (by simp [h])
  rcases this rows [] h with h | h
  · cases h
  · exact h
theorem addK_len {rows : List Row} : (addK rows).length ≤ rows.length := by
  have : ∀ (rows : List Row) (kvs : List Row), (rows.foldl addS kvs).length ≤ kvs.length + rows.length := by
    intro rows
    induction rows with
    | nil => exact fun _ => Nat.le_refl _
    | cons r rs ih =>
      intro kvs
      refine Nat.le_trans (ih _) ?_
      have : (addS kvs r).length ≤ kvs.length + 1 := by
        have e := congrArg List.length (putF_keys (kvs := kvs) (k := r.1) (v := (getF kvs r.1).getD 0 + r.2))
        rw [List.length_map] at e
        show (putF _ _ _).length ≤ _
        rw [e]
        split <;> simp
      simp only [List.length_cons]
      omega
  have h := this rows []
  rw [List.length_nil, Nat.zero_add] at h
  exact h
/-! ### order of keys -/
def lexI : List Int → List Int → Bool
  | [], [] => false
  | [], _ :: _ => true
  | _ :: _, [] => false
  | x :: xs, y :: ys => if x = y then lexI xs ys else decide (x < y)
theorem lessDs_int : ∀ (a b : List Int), lessDs (a.map D.int) (b.map D.int) = lexI a b
  | [], [] => rfl
  | [], _ :: _ => rfl
  | _ :: _, [] => rfl
  | x :: a, y :: b => by
    simp only [List.map_cons, lessDs, sameD, lexI]
    by_cases h : x = y
    · simp only [h, decide_true, if_true]
      exact lessDs_int a b
    · simp only [h, decide_false, if_false, lessD]
theorem less_keyD (a b : List Int) : lessD (keyD a) (keyD b) = lexI a b := by
  unfold keyD
  rw [lessD]
  exact lessDs_int a b
theorem lexI_irr : ∀ a : List Int, lexI a a = false
  | [] => rfl
  | x :: a => by simp only [lexI, if_true]; exact lexI_irr a
theorem lexI_trans : ∀ {a b c : List Int}, lexI a b = true → lexI b c = true → lexI a c = true
  | [], [], _, h, _ => by cases h
  | [], _ :: _, [], _, k => by cases k
  | [], _ :: _, _ :: _, _, _ => rfl
  | _ :: _, [], _, h, _ => by cases h
  | _ :: _, _ :: _, [], _, k => by cases k
  | x :: a, y :: b, z :: c, h, k => by
    unfold lexI at h k ⊢
    by_cases e1 : x = y
    · subst e1
      rw [if_pos rfl] at h
      by_cases e2 : x = z
      · rw [if_pos e2] at k ⊢
        exact lexI_trans h k
      · rw [if_neg e2] at k ⊢
        exact k
    · rw [if_neg e1] at h
      have h := of_decide_eq_true h
      by_cases e2 : y = z
      · subst e2
        rw [if_neg e1]
        exact decide_eq_true h
      · rw [if_neg e2] at k
        have k := of_decide_eq_true k
        rw [if_neg (by omega)]
        exact decide_eq_true (by omega)
theorem lexI_tot : ∀ {a b : List Int}, a ≠ b → lexI a b = false → lexI b a = true
  | [], [], h, _ => absurd rfl h
  | [], _ :: _, _, k => by cases k
  | _ :: _, [], _, _ => rfl
  | x :: a, y :: b, h, k => by
    unfold lexI at k ⊢
    by_cases e1 : x = y
    · subst e1
      rw [if_pos rfl] at k ⊢
      exact lexI_tot (fun e => h (by rw [e])) k
    · rw [if_neg e1] at k
      rw [if_neg (Ne.symm e1)]
      have := of_decide_eq_false k
      exact decide_eq_true (by omega)
def insK (x : List Int) : List (List Int) → List (List Int)
  | [] => [x]
  | y :: ys => if lexI y x then y :: insK x ys else x :: y :: ys
def sortK : List (List Int) → List (List Int)
  | [] => []
  | x :: xs => insK x (sortK xs)
theorem insD_key (x : List Int) : ∀ (l : List (List Int)), insD (keyD x) (l.map keyD) = (insK x l).map keyD
  | [] => rfl
  | y :: l => by
    simp only [List.map_cons, insD, less_keyD, insK]
    cases lexI y x with
    | false => rfl
    | true => simp only [if_true, List.map_cons]; rw [← insD_key x l]
theorem sortD_key : ∀ (l : List (List Int)), sortD (l.map keyD) = (sortK l).map keyD
  | [] => rfl
  | x :: l => by simp only [List.map_cons, sortD, sortK, sortD_key l, insD_key]
theorem insK_perm (x : List Int) : ∀ (l : List (List Int)), (insK x l).Perm (x :: l)
  | [] => .refl _
  | y :: l => by
    unfold insK
    split
    · exact ((insK_perm x l).cons y).trans (List.Perm.swap x y l)
    · exact .refl _
theorem sortK_perm : ∀ (l : List (List Int)), (sortK l).Perm l
  | [] => .refl _
  | x :: l => (insK_perm x _).trans ((sortK_perm l).cons x)
theorem insK_asc {x : List Int} : ∀ {l : List (List Int)}, l.Pairwise (fun a b => lexI a b = true) → x ∉ l → (insK x l).Pairwise (fun a b => lexI a b = true)
  | [], _, _ => by simp [insK]
  | y :: l, h, hx => by
    unfold insK
    rw [List.pairwise_cons] at h
    simp only [List.mem_cons, not_or] at hx
    split
    · rename_i hy
      rw [List.pairwise_cons]
      refine ⟨fun z hz => ?_, insK_asc h.2 hx.2⟩
      rcases List.mem_cons.mp ((insK_perm x l).mem_iff.mp hz) with rfl | hz
      · exact hy
      · exact h.1 z hz
    · rename_i hy
      have hxy : lexI x y = true := lexI_tot (Ne.symm hx.1) (by simpa using hy)
      rw [List.pairwise_cons, List.pairwise_cons]
      refine ⟨fun z hz => ?_, h⟩
      rcases List.mem_cons.mp hz with rfl | hz
      · exact hxy
      · exact lexI_trans hxy (h.1 z hz)
theorem sortK_asc : ∀ {l : List (List Int)}, l.Nodup → (sortK l).Pairwise (fun a b => lexI a b = true)
  | [], _ => .nil
  | x :: l, h => by
    rw [List.nodup_cons] at h
    exact insK_asc (sortK_asc h.2) fun z => h.1 ((sortK_perm l).mem_iff.mp z)
/-- what added gives -/
def addedF (rows : List Row) : List Row := ((sortK ((addK rows).map (·.1))).filter fun k => decide (0 < (getF (addK rows) k).getD 0)).map fun k => (k, (getF (addK rows) k).getD 0)
theorem addedF_asc (rows : List Row) : (addedF rows).Pairwise (fun a b => lexI a.1 b.1 = true) := by
  unfold addedF
  rw [List.pairwise_map]
  exact (sortK_asc (addK_nodup rows)).sublist List.filter_sublist
theorem addedF_mem {rows : List Row} {r : Row} (h : r ∈ addedF rows) : r.1 ∈ rows.map (·.1) ∧ 0 < r.2 := by
  unfold addedF at h
  obtain ⟨k, hk, rfl⟩ := List.mem_map.mp h
  obtain ⟨h1, h2⟩ := List.mem_filter.mp hk
  exact ⟨addK_mem ((sortK_perm _).mem_iff.mp h1), of_decide_eq_true h2⟩
end Pz

set_option Elab.async false
set_option linter.all false
set_option maxRecDepth 100000
set_option maxHeartbeats 1000000
/-! U7: rows added up, by the interpreter. -/
namespace Pz
open PySem
def addedBody (s : Nat) : List S := [.asg (.name 1) (.dict0 true),
    .loop (.tup [.name 2, .name 3]) (.seq (.var 0)) [.asgIdx (.var 1) (.var 2) (.bin .add (.mth .get (.var 1) [.var 2, .int 0]) (.var 3))],
    .ret (.blt .tuple [.comp [s] (.name s) (.seq (.sortedK (.var 1))) (some (.cmp .gt (.idx (.var 1) (.var s)) (.int 0))) (.tup [.var s, .idx (.var 1) (.var s)])])]
theorem alike_ints : ∀ (a b : List Int), alikeDs (a.map D.int) (b.map D.int) = true
  | [], _ => by simp [alikeDs]
  | _ :: _, [] => by simp [alikeDs]
  | x :: a, y :: b => by
    simp only [List.map_cons, alikeDs, alikeD, alike_ints a b, Bool.and_self]
theorem keys_ok {ks : List (List Int)} {w : Nat} (hw : ∀ k ∈ ks, k.length = w) (hn : ks.Nodup) : (okSort (ks.map keyD) || Nat.ble ks.length 1) = true := by
  cases w with
  | zero =>
    have : ks.length ≤ 1 := by
      match ks, hw, hn with
      | [], _, _ => simp
      | [_], _, _ => simp
      | a :: b :: r, hw, hn =>
        exfalso
        have e1 := List.eq_nil_of_length_eq_zero (hw a (by simp))
        have e2 := List.eq_nil_of_length_eq_zero (hw b (by simp))
        rw [List.nodup_cons] at hn
        exact hn.1 (by rw [e1, e2]; simp)
    rw [Nat.ble_eq.mpr this]
    simp
  | succ w =>
    have h : okSort (ks.map keyD) = true := by
      unfold okSort
      rw [Bool.or_eq_true]
      right
      rw [Bool.and_eq_true]
      constructor
      · rw [List.all_map, List.all_eq_true]
        intro k hk
        have hl := hw k hk
        cases k with
        | nil => cases hl
        | cons x xs =>
          show (true && shal 20 (keyD (x :: xs))) = true
          rw [Bool.true_and]
          unfold keyD
          simp only [shal, List.all_map, List.all_eq_true]
          intro y _
          rfl
      · rw [List.all_map, List.all_eq_true]
        intro k _
        show ((ks.map keyD).all fun y => alikeD (keyD k) y) = true
        rw [List.all_map, List.all_eq_true]
        intro k2 _
        show alikeD (keyD k) (keyD k2) = true
        unfold keyD
        rw [alikeD]
        exact alike_ints k k2
    rw [h]
    rfl
theorem getF_some {kvs : List Row} {k : List Int} (h : k ∈ kvs.map (·.1)) : ∃ v, getF kvs k = some v := by
  cases e : getF kvs k with
  | none => exact absurd h (getF_none.mp e)
  | some v => exact ⟨v, rfl⟩
theorem clos_rows {n : Nat} : ∀ (rs : List Row), closL n (rs.map rowD) = true
  | [] => rfl
  | r :: rs => by
    have hk : ∀ l : List Int, closL n (l.map D.int) = true := by
      intro l
      induction l with
      | nil => rfl
      | cons a l ih => simp only [List.map_cons, closL, closD, ih, Bool.and_self]
    simp only [List.map_cons, closL, rowD, keyD, closD, hk, clos_rows rs, Bool.and_self]
section
variable {P : Prog} {call : Nat → List D → M D} {T : Store} {kvs : List Row}
theorem dic_at : (T ++ [Cell.dic true (kvs.map kvD)])[T.length]? = some (.dic true (kvs.map kvD)) := by
  rw [List.getElem?_append_right (Nat.le_refl _), Nat.sub_self]
  rfl
theorem dictForT_at {k : List Int} : dictFor (T ++ [.dic true (kvs.map kvD)]) (.ref T.length) (keyD k) = some (kvs.map kvD) := by
  unfold dictFor
  simp only [dic_at, keyOk_keyD]
  rfl
theorem get_at {k : List Int} : mthD .get (.ref T.length) [keyD k, .int 0] (T ++ [.dic true (kvs.map kvD)]) = .ok (.int ((getF kvs k).getD 0)) (T ++ [.dic true (kvs.map kvD)]) := by
  show getD (.ref T.length) [keyD k, .int 0] _ = _
  unfold getD
  simp only [dictForT_at, dget_kv]
  cases getF kvs k <;> rfl
theorem idx_at {k : List Int} {v : Int} (h : getF kvs k = some v) : idxD (.ref T.length) (keyD k) (T ++ [.dic true (kvs.map kvD)]) = .ok (.int v) (T ++ [.dic true (kvs.map kvD)]) := by
  show (match dictFor (T ++ [Cell.dic true (kvs.map kvD)]) (.ref T.length) (keyD k) with
    | some kvs' => match dget kvs' (keyD k) with
      | some d => Res.ok d (T ++ [Cell.dic true (kvs.map kvD)])
      | none => .bad
    | none => .bad) = _
  rw [dictForT_at]
  simp only [dget_kv, h]
  rfl
theorem set_at {k : List Int} {v : Int} (hl : kvs.length < 1000000) : setIdx (.ref T.length) (keyD k) (.int v) (T ++ [.dic true (kvs.map kvD)]) = .ok () (T ++ [.dic true ((putF kvs k v).map kvD)]) := by
  unfold setIdx
  simp only [dic_at, keyOk_keyD]
  have h2 : Nat.blt (kvs.map kvD).length sizeLine = true := by
    rw [Nat.blt_eq, List.length_map]
    exact Nat.lt_of_lt_of_le hl (by decide)
  have h3 : isTupD (keyD k) = true := rfl
  simp only [h2, h3, dput_kv]
  simp
end
theorem added_wp {P : Prog} {n f : Nat} {fn : Fn} {T : Store} {x : D} {rows : List Row} {w : Nat} {Q : D → Store → Prop} (hf : P.fns[f]? = some fn) (hb : fn.body = addedBody 2) (hp : fn.ps.length = 1) (hN : fn.N.length = 4) (hg : fn.gc = true)
    (hx : ∀ T, seqWalk x T = .ok (rows.map rowD, []) T) (hw : ∀ r ∈ rows, r.1.length = w) (hl : rows.length < 1000000)
    (q : Q (.tup ((addedF rows).map rowD)) T) : wp (callN P (n + 1) f [x]) T Q := by
  refine wp_fn hf (by rw [hp, hN]; rfl) ?_
  rw [hb, hN, hg]
  show wp (execs P (callN P n) (addedBody 2) [some x, none, none, none]) T _
  refine ws_asg ?_
  simp only [W]
  refine ⟨_, rfl, ?_⟩
  simp only [ES]
  refine ws_loop (wp_mono (Q := fun v T' => v = (rows.map rowD, []) ∧ T' = T ++ [.dic true []]) ?_ ?_)
  · simp only [W, WR, EG, vr_some]
    exact wp_ok (hx _) ⟨rfl, rfl⟩
  rintro v T' ⟨rfl, rfl⟩
  refine ⟨fun rest env2 T2 => ∃ done todo y z, rows = done ++ todo ∧ rest = todo.map rowD ∧ env2 = [some x, some (.ref T.length), y, z] ∧ T2 = T ++ [.dic true ((addK done).map kvD)], ⟨[], rows, _, _, rfl, rfl, rfl, rfl⟩, ?_, ?_⟩
  · rintro d ds env2 T2 ⟨done, todo, y, z, rfl, hr, rfl, rfl⟩
    cases todo with
    | nil => cases hr
    | cons r todo =>
      simp only [List.map_cons, List.cons.injEq] at hr
      obtain ⟨rfl, rfl⟩ := hr
      refine ⟨rfl, [some x, some (.ref T.length), some (keyD r.1), some (.int r.2)], rfl, ?_⟩
      refine ws_idx ?_
      simp only [W, WR, EG, vr_some]
      refine ⟨by simp only [tyOk, dic_at], ?_⟩
      refine wp_ok get_at ?_
      simp only [WD]
      have hlen := addK_len (rows := done)
      simp only [List.length_append, List.length_cons] at hl
      refine wp_ok (set_at (by omega)) ?_
      refine ws_nil ⟨done ++ [r], todo, _, _, by simp, rfl, rfl, ?_⟩
      unfold addK
      rw [List.foldl_append]
      rfl
  · rintro env2 T2 ⟨done, todo, y, z, rfl, hr, rfl, rfl⟩
    cases todo with
    | cons r todo => cases hr
    | nil =>
      rw [List.append_nil] at hl hw q
      refine ⟨rfl, ?_⟩
      have hlen := addK_len (rows := done)
      refine ws_ret (we_blt (wes_cons ?_))
      refine we_filter (T1 := T ++ [.dic true ((addK done).map kvD)]) (g := []) keyD (fun k => decide (0 < (getF (addK done) k).getD 0)) (fun k => rowD (k, (getF (addK done) k).getD 0)) (sortK ((addK done).map (·.1))) ?_ rfl ?_ ?_ ?_
      · simp only [W, WR, EG, vr_some]
        have hko : (okSort (((addK done).map (·.1)).map keyD) || Nat.ble ((addK done).map (·.1)).length 1) = true := keys_ok (w := w) (fun k hk => by
          obtain ⟨r, hr, rfl⟩ := List.mem_map.mp (addK_mem hk)
          exact hw r hr) (addK_nodup done)
        have e1 : (((addK done).map kvD).map (·.1)) = ((addK done).map (·.1)).map keyD := by
          rw [List.map_map, List.map_map]
          rfl
        refine wp_ok (a := .lst ((sortK ((addK done).map (·.1))).map keyD)) (T' := T ++ [.dic true ((addK done).map kvD)]) ?_ ?_
        · unfold sortedKD
          simp only [dic_at, e1]
          rw [← sortD_key]
          rw [List.length_map] at hko
          rw [List.length_map, hko]
          rfl
        · simp only [WD]
          exact ⟨trivial, trivial⟩
      · rw [(sortK_perm _).length_eq, List.length_map]
        exact Nat.le_trans (show _ ≤ 1000000 by omega) (by decide)
      · intro k hk
        obtain ⟨v, hv⟩ := getF_some ((sortK_perm _).mem_iff.mp hk)
        refine ⟨[some x, some (.ref T.length), some (keyD k), z], rfl, ?_⟩
        simp only [W, WR, EG, vr_some]
        refine wp_ok (idx_at hv) ?_
        refine wp_ok (a := .bl (decide (0 < v))) (T' := T ++ [.dic true ((addK done).map kvD)]) rfl ⟨?_, rfl, fun _ => ?_⟩
        · rw [hv]
          rfl
        refine wp_ok (idx_at hv) ⟨rfl, ?_, rfl⟩
        rw [hv]
        rfl
      · simp only [W, WD]
        rw [gc_take (by rw [List.take_left]) ?_]
        · have e : (List.filter (fun k => decide (0 < (getF (addK done) k).getD 0)) (sortK ((addK done).map (·.1)))).map (fun k => rowD (k, (getF (addK done) k).getD 0)) = (addedF done).map rowD := by
            unfold addedF
            rw [List.map_map]
            rfl
          rw [e]
          exact q
        · have e : (List.filter (fun k => decide (0 < (getF (addK done) k).getD 0)) (sortK ((addK done).map (·.1)))).map (fun k => rowD (k, (getF (addK done) k).getD 0)) = (addedF done).map rowD := by
            unfold addedF
            rw [List.map_map]
            rfl
          rw [e]
          simp only [closD]
          exact clos_rows _
theorem sum_wp {P : Prog} {n f : Nat} {fn : Fn} {T : Store} {x : D} {rows : List Row} {w : Nat} {Q : D → Store → Prop} (hf : P.fns[f]? = some fn) (hb : fn.body = addedBody 4) (hp : fn.ps.length = 1) (hN : fn.N.length = 5) (hg : fn.gc = true)
    (hx : ∀ T, seqWalk x T = .ok (rows.map rowD, []) T) (hw : ∀ r ∈ rows, r.1.length = w) (hl : rows.length < 1000000)
    (q : Q (.tup ((addedF rows).map rowD)) T) : wp (callN P (n + 1) f [x]) T Q := by
  refine wp_fn hf (by rw [hp, hN]; rfl) ?_
  rw [hb, hN, hg]
  show wp (execs P (callN P n) (addedBody 4) [some x, none, none, none, none]) T _
  refine ws_asg ?_
  simp only [W]
  refine ⟨_, rfl, ?_⟩
  simp only [ES]
  refine ws_loop (wp_mono (Q := fun v T' => v = (rows.map rowD, []) ∧ T' = T ++ [.dic true []]) ?_ ?_)
  · simp only [W, WR, EG, vr_some]
    exact wp_ok (hx _) ⟨rfl, rfl⟩
  rintro v T' ⟨rfl, rfl⟩
  refine ⟨fun rest env2 T2 => ∃ done todo y z, rows = done ++ todo ∧ rest = todo.map rowD ∧ env2 = [some x, some (.ref T.length), y, z, none] ∧ T2 = T ++ [.dic true ((addK done).map kvD)], ⟨[], rows, _, _, rfl, rfl, rfl, rfl⟩, ?_, ?_⟩
  · rintro d ds env2 T2 ⟨done, todo, y, z, rfl, hr, rfl, rfl⟩
    cases todo with
    | nil => cases hr
    | cons r todo =>
      simp only [List.map_cons, List.cons.injEq] at hr
      obtain ⟨rfl, rfl⟩ := hr
      refine ⟨rfl, [some x, some (.ref T.length), some (keyD r.1), some (.int r.2), none], rfl, ?_⟩
      refine ws_idx ?_
      simp only [W, WR, EG, vr_some]
      refine ⟨by simp only [tyOk, dic_at], ?_⟩
      refine wp_ok get_at ?_
      simp only [WD]
      have hlen := addK_len (rows := done)
      simp only [List.length_append, List.length_cons] at hl
      refine wp_ok (set_at (by omega)) ?_
      refine ws_nil ⟨done ++ [r], todo, _, _, by simp, rfl, rfl, ?_⟩
      unfold addK
      rw [List.foldl_append]
      rfl
  · rintro env2 T2 ⟨done, todo, y, z, rfl, hr, rfl, rfl⟩
    cases todo with
    | cons r todo => cases hr
    | nil =>
      rw [List.append_nil] at hl hw q
      refine ⟨rfl, ?_⟩
      have hlen := addK_len (rows := done)
      refine ws_ret (we_blt (wes_cons ?_))
      refine we_filter (T1 := T ++ [.dic true ((addK done).map kvD)]) (g := []) keyD (fun k => decide (0 < (getF (addK done) k).getD 0)) (fun k => rowD (k, (getF (addK done) k).getD 0)) (sortK ((addK done).map (·.1))) ?_ rfl ?_ ?_ ?_
      · simp only [W, WR, EG, vr_some]
        have hko : (okSort (((addK done).map (·.1)).map keyD) || Nat.ble ((addK done).map (·.1)).length 1) = true := keys_ok (w := w) (fun k hk => by
          obtain ⟨r, hr, rfl⟩ := List.mem_map.mp (addK_mem hk)
          exact hw r hr) (addK_nodup done)
        have e1 : (((addK done).map kvD).map (·.1)) = ((addK done).map (·.1)).map keyD := by
          rw [List.map_map, List.map_map]
          rfl
        refine wp_ok (a := .lst ((sortK ((addK done).map (·.1))).map keyD)) (T' := T ++ [.dic true ((addK done).map kvD)]) ?_ ?_
        · unfold sortedKD
          simp only [dic_at, e1]
          rw [← sortD_key]
          rw [List.length_map] at hko
          rw [List.length_map, hko]
          rfl
        · simp only [WD]
          exact ⟨trivial, trivial⟩
      · rw [(sortK_perm _).length_eq, List.length_map]
        exact Nat.le_trans (show _ ≤ 1000000 by omega) (by decide)
      · intro k hk
        obtain ⟨v, hv⟩ := getF_some ((sortK_perm _).mem_iff.mp hk)
        refine ⟨[some x, some (.ref T.length), y, z, some (keyD k)], rfl, ?_⟩
        simp only [W, WR, EG, vr_some]
        refine wp_ok (idx_at hv) ?_
        refine wp_ok (a := .bl (decide (0 < v))) (T' := T ++ [.dic true ((addK done).map kvD)]) rfl ⟨?_, rfl, fun _ => ?_⟩
        · rw [hv]
          rfl
        refine wp_ok (idx_at hv) ⟨rfl, ?_, rfl⟩
        rw [hv]
        rfl
      · simp only [W, WD]
        rw [gc_take (by rw [List.take_left]) ?_]
        · have e : (List.filter (fun k => decide (0 < (getF (addK done) k).getD 0)) (sortK ((addK done).map (·.1)))).map (fun k => rowD (k, (getF (addK done) k).getD 0)) = (addedF done).map rowD := by
            unfold addedF
            rw [List.map_map]
            rfl
          rw [e]
          exact q
        · have e : (List.filter (fun k => decide (0 < (getF (addK done) k).getD 0)) (sortK ((addK done).map (·.1)))).map (fun k => rowD (k, (getF (addK done) k).getD 0)) = (addedF done).map rowD := by
            unfold addedF
            rw [List.map_map]
            rfl
          rw [e]
          simp only [closD]
          exact clos_rows _
end Pz

set_option Elab.async false
set_option linter.all false
set_option maxRecDepth 100000
set_option maxHeartbeats 1000000
/-! U8: tupled; a Table that is made. -/
namespace Pz
open PySem
def tupledBody (it : Nat) : List S := [.ret (.ite (.isi (.var 0) [.list, .tuple]) (.blt .tuple [.comp [1] (.name 1) (.seq (.var 0)) none (.call it [.var 1])]) (.var 0))]
section
variable {P : Prog} {f : Nat} {fn : Fn} (hf : P.fns[f]? = some fn) (hb : fn.body = tupledBody f) (hp : fn.ps.length = 1) (hN : fn.N.length = 2)
include hf hb hp hN
theorem tupled_int {n : Nat} {T : Store} {i : Int} : wp (callN P (n + 1) f [.int i]) T fun r T' => r = .int i ∧ T' = T := by
  refine wp_fn hf (by rw [hp, hN]; rfl) ?_
  rw [hb, hN]
  show wp (execs P (callN P n) (tupledBody f) [some (.int i), none]) T _
  refine ws_ret ?_
  simp only [W, WR, EG, vr_some]
  refine wp_ok (a := .bl false) (T' := T) rfl ?_
  simp only [br_bl]
  exact ⟨fun z => Bool.noConfusion z, fun _ => ⟨trivial, gc_len rfl⟩⟩
theorem tupled_seq {n : Nat} {T : Store} {x : D} {xs : List D} (hx : x = .lst xs ∨ x = .tup xs) (hl : xs.length ≤ sizeLine) (h : ∀ d ∈ xs, wp (callN P n f [d]) T fun r T' => r = d ∧ T' = T) : wp (callN P (n + 1) f [x]) T fun r T' => r = .tup xs ∧ T' = T := by
  refine wp_fn hf (by rw [hp, hN]; rfl) ?_
  rw [hb, hN]
  show wp (execs P (callN P n) (tupledBody f) [some x, none]) T _
  refine ws_ret ?_
  simp only [W, WR, EG, vr_some]
  have h1 : isiD x [.list, .tuple] T = .ok (.bl true) T := by rcases hx with rfl | rfl <;> rfl
  refine wp_ok h1 ?_
  simp only [br_bl]
  refine ⟨fun _ => ?_, fun z => by cases z⟩
  have hs : seqWalk x T = .ok (xs, []) T := by rcases hx with rfl | rfl <;> rfl
  refine we_map (T1 := T) (g := []) id id xs ?_ rfl hl ?_ ?_
  · simp only [W, WR, EG, vr_some]
    exact wp_ok hs ⟨by simp, rfl⟩
  · intro d hd
    refine ⟨[some x, some d], rfl, ?_⟩
    simp only [W, WR, EG, vr_some]
    exact h d hd
  · simp only [W, WD]
    rw [gc_len rfl]
    simp
theorem tupled_key {n : Nat} {T : Store} {k : List Int} (hl : k.length ≤ sizeLine) : wp (callN P (n + 2) f [keyD k]) T fun r T' => r = keyD k ∧ T' = T := by
  refine tupled_seq hf hb hp hN (.inr rfl) (by rw [List.length_map]; exact hl) fun d hd => ?_
  obtain ⟨i, _, rfl⟩ := List.mem_map.mp hd
  exact tupled_int hf hb hp hN
theorem tupled_row {n : Nat} {T : Store} {r : Row} (hl : r.1.length ≤ sizeLine) : wp (callN P (n + 3) f [rowD r]) T fun v T' => v = rowD r ∧ T' = T := by
  refine tupled_seq hf hb hp hN (.inr rfl) (by show 2 ≤ sizeLine; decide) fun d hd => ?_
  simp only [List.mem_cons, List.not_mem_nil, or_false] at hd
  rcases hd with rfl | rfl
  · exact tupled_key hf hb hp hN hl
  · exact tupled_int hf hb hp hN
theorem tupled_rows {n : Nat} {T : Store} {x : D} {rs : List Row} (hx : x = .lst (rs.map rowD) ∨ x = .tup (rs.map rowD)) (hl : rs.length ≤ sizeLine) (hk : ∀ r ∈ rs, r.1.length ≤ sizeLine) : wp (callN P (n + 4) f [x]) T fun v T' => v = .tup (rs.map rowD) ∧ T' = T := by
  refine tupled_seq hf hb hp hN hx (by rw [List.length_map]; exact hl) fun d hd => ?_
  obtain ⟨r, hr, rfl⟩ := List.mem_map.mp hd
  exact tupled_row hf hb hp hN (hk r hr)
end
/-! ### Table -/
def tinitBody (it ia : Nat) : List S := [.asgF (.var 0) "own_labels" (.labT (.var 1)),
    .loop (.tup [.name 3, .name 4]) (.seq (.var 2)) [.ifs (.or (.cmp .ne (.blt .len [.var 3]) (.blt .len [.att (.var 0) "own_labels"])) (.cmp .lt (.minT (.tupS [true, false] [.var 3, .var 4])) (.int 0))) [.bad] []],
    .asgF (.var 0) "own_rows" (.call ia [.call it [.var 2]])]
theorem min_ints {T : Store} {vs : List Int} {a : Int} (h : ∀ v ∈ vs, 0 ≤ v) (ha : 0 ≤ a) : ∃ m : Int, 0 ≤ m ∧ minTD (.tup (vs.map D.int ++ [.int a])) T = .ok (.int m) T := by
  have e1 : intsD (vs.map D.int ++ [.int a]) = some (vs ++ [a]) := by
    rw [show vs.map D.int ++ [D.int a] = (vs ++ [a]).map D.int by simp]
    exact intsD_map _
  have hmin : ∀ (l : List Int) (b : Int), 0 ≤ b → (∀ v ∈ l, 0 ≤ v) → 0 ≤ minI b l := by
    intro l
    induction l with
    | nil => exact fun b h _ => h
    | cons x l ih =>
      intro b hb hl
      unfold minI
      refine ih _ ?_ fun v hv => hl v (by simp [hv])
      have := hl x (by simp)
      split <;> omega
  cases vs with
  | nil => exact ⟨a, ha, by unfold minTD withI; simp only [e1]; rfl⟩
  | cons b r =>
    refine ⟨minI b (r ++ [a]), hmin _ _ (h b (by simp)) ?_, by unfold minTD withI; simp only [e1]; rfl⟩
    intro v hv
    rcases List.mem_append.mp hv with h1 | h1
    · exact h v (by simp [h1])
    · simp only [List.mem_singleton] at h1
      subst h1
      exact ha
def tblD (labels : List D) (rows : List Row) : D := .obj "Table" ["own_labels", "own_rows"] [.lab labels, .tup (rows.map rowD)]
end Pz

set_option Elab.async false
set_option linter.all false
set_option maxRecDepth 100000
set_option maxHeartbeats 1000000
/-! U9: a Table that is made. -/
namespace Pz
open PySem
theorem last_at {T : Store} {X : Cell} : (T ++ [X])[T.length]? = some X := by
  rw [List.getElem?_append_right (Nat.le_refl _), Nat.sub_self]
  rfl
theorem last_set {T : Store} {X Y : Cell} : (T ++ [X]).set T.length Y = T ++ [Y] := by simp
theorem table_wp {P : Prog} {n f it ia : Nat} {fn tn an : Fn} {cd : ClsD} {T : Store} {labs : List D} {x : D} {rows : List Row} {Q : D → Store → Prop}
    (hc : clsIn "Table" P.cls = some cd) (hfl : cd.flds = (["own_labels", "own_rows"] : List Str)) (hi : lkS "__init__" cd.mths = some f) (hf : P.fns[f]? = some fn) (hb : fn.body = tinitBody it ia) (hp : fn.ps.length = 3) (hN : fn.N.length = 5) (hfill : ∀ a b c, fillD fn [a, b, c] = [a, b, c])
    (tf : P.fns[it]? = some tn) (tb : tn.body = tupledBody it) (tp : tn.ps.length = 1) (tN : tn.N.length = 2)
    (af : P.fns[ia]? = some an) (ab : an.body = addedBody 2) (ap : an.ps.length = 1) (aN : an.N.length = 4) (ag : an.gc = true)
    (hx : x = .lst (rows.map rowD) ∨ x = .tup (rows.map rowD)) (hl : rows.length < 1000000) (hll : labs.length < 1000) (hcl : ∀ m, closL m labs = true) (hr : ∀ r ∈ rows, r.1.length = labs.length ∧ (∀ v ∈ r.1, 0 ≤ v) ∧ 0 ≤ r.2)
    (q : Q (tblD labs (addedF rows)) T) : wp (makeD P (callN P (n + 5)) true "Table" [.lab labs, x]) T Q := by
  refine wp_make hc hi hf ?_
  rw [hfill]
  refine wp_fn hf (by rw [hp, hN]; rfl) ?_
  rw [hb, hN]
  show wp (execs P (callN P (n + 4)) (tinitBody it ia) [some (.ref T.length), some (.lab labs), some x, none, none]) (T ++ [.obj "Table" [] []]) _
  have hs : seqWalk x (T ++ [.obj "Table" ["own_labels"] [.lab labs]]) = .ok (rows.map rowD, []) (T ++ [.obj "Table" ["own_labels"] [.lab labs]]) := by rcases hx with rfl | rfl <;> rfl
  refine ws_asgF ?_
  simp only [W, WR, EG, vr_some, WD]
  refine wp_ok (a := ()) (T' := T ++ [.obj "Table" ["own_labels"] [.lab labs]]) ?_ ?_
  · unfold setF
    simp only [last_at, hc, hfl, last_set]
    rfl
  refine ws_loop (wp_mono (Q := fun v T' => v = (rows.map rowD, []) ∧ T' = T ++ [.obj "Table" ["own_labels"] [.lab labs]]) ?_ ?_)
  · simp only [W, WR, EG, vr_some]
    exact wp_ok hs ⟨rfl, rfl⟩
  rintro v T' ⟨rfl, rfl⟩
  refine ⟨fun rest env2 T2 => (∃ todo : List Row, rest = todo.map rowD ∧ ∀ r ∈ todo, r ∈ rows) ∧ (∃ y z, env2 = [some (.ref T.length), some (.lab labs), some x, y, z]) ∧ T2 = T ++ [.obj "Table" ["own_labels"] [.lab labs]], ⟨⟨rows, rfl, fun _ h => h⟩, ⟨_, _, rfl⟩, rfl⟩, ?_, ?_⟩
  · rintro d ds env2 T2 ⟨⟨todo, h1, h2⟩, ⟨y, z, rfl⟩, rfl⟩
    cases todo with
    | nil => cases h1
    | cons r todo =>
      simp only [List.map_cons, List.cons.injEq] at h1
      obtain ⟨rfl, rfl⟩ := h1
      obtain ⟨g1, g2, g3⟩ := hr r (h2 r (by simp))
      refine ⟨rfl, [some (.ref T.length), some (.lab labs), some x, some (keyD r.1), some (.int r.2)], rfl, ?_⟩
      refine ws_if ?_
      simp only [W, WR, EG, vr_some]
      refine wp_ok (a := .int r.1.length) (T' := T ++ [.obj "Table" ["own_labels"] [.lab labs]]) (by
        show Res.ok (D.int (r.1.map D.int).length) _ = _
        rw [List.length_map]) ?_
      refine wp_fld (c := "Table") (ns := ["own_labels"]) (fs := [.lab labs]) (cd := cd) (d := .lab labs) (by simp only [objOf, last_at]) hc (by rw [hfl]; rfl) rfl ?_
      simp only [WD]
      have e1 : (!((r.1.length : Int) == (labs.length : Int))) = false := by rw [g1]; simp
      rw [e1]
      simp only [br_bl]
      refine ⟨fun z => Bool.noConfusion z, fun _ => ?_⟩
      have e2 : ∀ T, seqD (keyD r.1) T = .ok (r.1.map D.int) T := fun _ => rfl
      refine wp_ok (e2 _) ?_
      refine ⟨?_, ?_⟩
      · unfold lim
        rw [Nat.ble_eq, List.length_append, List.length_map]
        exact Nat.le_trans (show _ ≤ 2000 by simp; omega) (by decide)
      obtain ⟨m, m0, hm⟩ := min_ints (T := T ++ [.obj "Table" ["own_labels"] [.lab labs]]) g2 g3
      refine wp_ok hm ?_
      simp only [WD]
      refine ⟨_, rfl, fun z => ?_, fun _ => ?_⟩
      · have := of_decide_eq_true z
        omega
      · exact ws_nil ⟨⟨todo, rfl, fun r hr' => h2 r (by simp [hr'])⟩, ⟨_, _, rfl⟩, rfl⟩
  · rintro env2 T2 ⟨_, ⟨y, z, rfl⟩, rfl⟩
    refine ⟨rfl, ?_⟩
    refine ws_asgF ?_
    simp only [W, WR, EG, vr_some]
    refine wp_mono (tupled_rows (n := n) tf tb tp tN hx (Nat.le_trans (Nat.le_of_lt hl) (by decide)) (fun r hr' => by rw [(hr r hr').1]; exact Nat.le_trans (Nat.le_of_lt hll) (by decide))) fun v T3 h => ?_
    obtain ⟨rfl, rfl⟩ := h
    refine added_wp (w := labs.length) (rows := rows) af ab ap aN ag (fun _ => rfl) (fun r hr' => (hr r hr').1) hl ?_
    refine wp_ok (a := ()) (T' := T ++ [.obj "Table" ["own_labels", "own_rows"] [.lab labs, .tup ((addedF rows).map rowD)]]) ?_ ?_
    · unfold setF
      simp only [last_at, hc, hfl, last_set]
      rfl
    refine ws_nil ?_
    refine ⟨trivial, "Table", ["own_labels", "own_rows"], [.lab labs, .tup ((addedF rows).map rowD)], [], ?_, ?_, q⟩
    · rw [gc_len (by simp)]
    · simp only [closL, closD, hcl, clos_rows, Bool.and_self]
end Pz

set_option Elab.async false
set_option linter.all false
set_option maxRecDepth 100000
set_option maxHeartbeats 1000000
/-! U10: is_number, is_row. -/
namespace Pz
open PySem
def isnumBody : List S := [.ret (.and (.isi (.var 0) [.int]) (.not (.isi (.var 0) [.bool])))]
def isNum : D → Bool
  | .int _ => true
  | _ => false
/-- things whose kind is plain -/
def plainD : D → Bool
  | .int _ => true
  | .bl _ => true
  | .str _ => true
  | .non => true
  | .tup _ => true
  | .lst _ => true
  | _ => false
theorem isnum_wp {P : Prog} {n f : Nat} {fn : Fn} {T : Store} {x : D} (hf : P.fns[f]? = some fn) (hb : fn.body = isnumBody) (hp : fn.ps.length = 1) (hN : fn.N.length = 1) (hx : plainD x = true) : wp (callN P (n + 1) f [x]) T fun r T' => r = .bl (isNum x) ∧ T' = T := by
  refine wp_fn hf (by rw [hp, hN]; rfl) ?_
  rw [hb, hN]
  show wp (execs P (callN P n) isnumBody [some x]) T _
  refine ws_ret ?_
  simp only [W, WR, EG, vr_some]
  cases x <;> first | (cases hx; done) | skip
  · refine wp_ok (a := .bl false) (T' := T) rfl ?_
    simp only [br_bl]
    exact ⟨fun z => Bool.noConfusion z, fun _ => ⟨rfl, gc_len rfl⟩⟩
  · refine wp_ok (a := .bl true) (T' := T) rfl ?_
    simp only [br_bl]
    exact ⟨fun _ => wp_ok (a := .bl true) (T' := T) rfl (wp_ok (a := .bl false) (T' := T) rfl ⟨rfl, gc_len rfl⟩), fun z => Bool.noConfusion z⟩
  · refine wp_ok (a := .bl true) (T' := T) rfl ?_
    simp only [br_bl]
    exact ⟨fun _ => wp_ok (a := .bl false) (T' := T) rfl (wp_ok (a := .bl true) (T' := T) rfl ⟨rfl, gc_len rfl⟩), fun z => Bool.noConfusion z⟩
  · refine wp_ok (a := .bl false) (T' := T) rfl ?_
    simp only [br_bl]
    exact ⟨fun z => Bool.noConfusion z, fun _ => ⟨rfl, gc_len rfl⟩⟩
  · refine wp_ok (a := .bl false) (T' := T) rfl ?_
    simp only [br_bl]
    exact ⟨fun z => Bool.noConfusion z, fun _ => ⟨rfl, gc_len rfl⟩⟩
  · refine wp_ok (a := .bl false) (T' := T) rfl ?_
    simp only [br_bl]
    exact ⟨fun z => Bool.noConfusion z, fun _ => ⟨rfl, gc_len rfl⟩⟩
end Pz

set_option Elab.async false
set_option linter.all false
set_option maxRecDepth 100000
set_option maxHeartbeats 1000000
/-! U11: is_row. -/
namespace Pz
open PySem
def isrowBody (inum cp : Nat) : List S := [.ifs (.or (.not (.isi (.var 1) [.tuple])) (.or (.cmp .ne (.blt .len [.var 1]) (.glo cp)) (.or (.not (.isi (.idx (.var 1) (.int 0)) [.tuple])) (.cmp .ne (.blt .len [.idx (.var 1) (.int 0)]) (.var 0))))) [.ret (.bl false)] [],
    .ret (.and (.blt .all [.comp [2] (.name 2) (.seq (.idx (.var 1) (.int 0))) none (.and (.call inum [.var 2]) (.cmp .ge (.var 2) (.int 0)))]) (.and (.call inum [.idx (.var 1) (.int 1)]) (.cmp .gt (.idx (.var 1) (.int 1)) (.int 0))))]
/-- a number from 0, from 1 -/
def num0 : D → Bool
  | .int i => decide (0 ≤ i)
  | _ => false
def num1 : D → Bool
  | .int i => decide (0 < i)
  | _ => false
def isRowF (many : Nat) : D → Bool
  | .tup [.tup ks, b] => Nat.beq ks.length many && ks.all num0 && num1 b
  | _ => false
theorem boolsD_map {α : Type} (p : α → Bool) : ∀ l : List α, boolsD (l.map fun x => D.bl (p x)) = some (l.map p)
  | [] => rfl
  | x :: l => by simp only [List.map_cons, boolsD, boolsD_map p l]
theorem all_wp {T : Store} {α : Type} {p : α → Bool} {l : List α} {Q : D → Store → Prop} (q : Q (.bl (l.all p)) T) : wp (bltD .all [.lst (l.map fun x => D.bl (p x))]) T Q := by
  refine wp_ok (a := .bl (l.all p)) (T' := T) ?_ q
  show withB (l.map fun x => D.bl (p x)) (fun bs => .ok (.bl (bs.all id)) T) = _
  unfold withB
  simp only [boolsD_map, List.all_map]
  rfl
/-- things whose parts are plain -/
def okT1 : D → Bool
  | .tup ks => Nat.blt ks.length 1000 && ks.all plainD
  | x => plainD x
def okT : D → Bool
  | .tup xs => xs.all okT1
  | x => plainD x
theorem okT1_plain {x : D} (h : okT1 x = true) : plainD x = true := by
  cases x <;> first | rfl | exact h
theorem okT_plain {x : D} (h : okT x = true) : plainD x = true := by
  cases x <;> first | rfl | exact h
theorem wisi {T : Store} {a : D} {Q : D → Store → Prop} (h : plainD a = true) : wp (isiD a [.tuple]) T Q = Q (.bl (isTupD a)) T := by
  cases a <;> first | (cases h; done) | exact wok rfl
theorem isrow_wp {P : Prog} {n f fi cp many : Nat} {fn inn : Fn} {T : Store} {x : D} {nm : Str} (hf : P.fns[f]? = some fn) (hb : fn.body = isrowBody fi cp) (hp : fn.ps.length = 2) (hN : fn.N.length = 3)
    (fi1 : P.fns[fi]? = some inn) (fi2 : inn.body = isnumBody) (fi3 : inn.ps.length = 1) (fi4 : inn.N.length = 1) (hc : P.cns[cp]? = some (nm, .int 2))
    (hx : okT x = true) : wp (callN P (n + 2) f [.int many, x]) T fun r T' => r = .bl (isRowF many x) ∧ T' = T := by
  refine wp_fn hf (by rw [hp, hN]; rfl) ?_
  rw [hb, hN]
  show wp (execs P (callN P (n + 1)) (isrowBody fi cp) [some (.int many), some x, none]) T _
  have no : ∀ (ss : List S) (env : Env) (R : Fl → Store → Prop), R (.rt (.bl false)) T → wp (execs P (callN P (n + 1)) (.ret (.bl false) :: ss) env) T R := fun ss env R h => ws_ret (by simp only [W]; exact h)
  have fin : isRowF many x = false → (D.bl false = .bl (isRowF many x) ∧ gcS fn.gc T T (.bl false) = T) := fun e => ⟨by rw [e], gc_len rfl⟩
  refine ws_if ?_
  simp only [W, WR, EG, vr_some, wisi (okT_plain hx)]
  simp only [WD, br_bl]
  refine ⟨fun z => ⟨_, rfl, fun _ => no _ _ _ (fin ?_), fun z => Bool.noConfusion z⟩, fun z => ?_⟩
  · cases x <;> first | rfl | cases z
  cases x <;> first | (cases z; done) | skip
  rename_i xs
  clear z
  simp only [WD]
  refine we_glo hc ?_
  simp only [WD, br_bl]
  refine ⟨fun z => ⟨_, rfl, fun _ => no _ _ _ (fin ?_), fun z => Bool.noConfusion z⟩, fun z => ?_⟩
  · match xs, z with
    | [], _ => rfl
    | [a], _ => cases a <;> rfl
    | [_, _], z => simp at z
    | a :: _ :: _ :: _, _ => cases a <;> rfl
  have h2 : xs.length = 2 := by
    have z' : (xs.length : Int) = 2 := by simpa using z
    omega
  clear z
  match xs, h2, hx, fin with
  | [a, b], h2', hx, fin =>
    clear h2'
    simp only [okT, List.all_cons, List.all_nil, Bool.and_true, Bool.and_eq_true] at hx
    obtain ⟨ha, hb'⟩ := hx
    refine wp_idx (xs := [a, b]) (d := a) rfl rfl ?_
    rw [wisi (okT1_plain ha)]
    simp only [WD, br_bl]
    refine ⟨fun z => ⟨_, rfl, fun _ => no _ _ _ (fin ?_), fun z => Bool.noConfusion z⟩, fun z => ?_⟩
    · cases a <;> first | rfl | cases z
    cases a <;> first | (cases z; done) | skip
    rename_i ks
    clear z
    refine wp_idx (xs := [.tup ks, b]) (d := .tup ks) rfl rfl ?_
    simp only [WD]
    refine ⟨_, rfl, fun z => no _ _ _ (fin ?_), fun z => ?_⟩
    · have : ks.length ≠ many := by
        intro e
        rw [e] at z
        simp at z
      show (Nat.beq ks.length many && ks.all num0 && num1 b) = false
      rw [show Nat.beq ks.length many = false from by rw [← Bool.not_eq_true, Nat.beq_eq]; exact this]
      rfl
    have hlen : ks.length = many := by
      have z' : (ks.length : Int) = many := by simpa using z
      omega
    simp only [okT1, Bool.and_eq_true, Nat.blt_eq] at ha
    have hkp : ∀ k ∈ ks, plainD k = true := by simpa using ha.2
    have res : isRowF many (.tup [.tup ks, b]) = (ks.all num0 && num1 b) := by
      show (Nat.beq ks.length many && ks.all num0 && num1 b) = _
      rw [show Nat.beq ks.length many = true from by rw [Nat.beq_eq]; exact hlen, Bool.true_and]
    refine ws_ret ?_
    simp only [W, WR, EG, vr_some]
    refine we_map (T1 := T) (g := []) id (fun k => .bl (num0 k)) ks ?_ rfl (Nat.le_trans (Nat.le_of_lt ha.1) (by decide)) ?_ ?_
    · simp only [W, WR, EG, vr_some]
      refine wp_idx (xs := [.tup ks, b]) (d := .tup ks) rfl rfl ?_
      simp only [WD]
      simp
    · intro k hk
      refine ⟨[some (.int many), some (.tup [.tup ks, b]), some k], rfl, ?_⟩
      simp only [W, WR, EG, vr_some]
      refine wp_mono (isnum_wp fi1 fi2 fi3 fi4 (hkp k hk)) ?_
      rintro r T' ⟨rfl, rfl⟩
      cases k <;> first | exact ⟨_, rfl, fun z => Bool.noConfusion z, fun _ => ⟨rfl, rfl⟩⟩ | skip
      rename_i i
      refine ⟨_, rfl, fun _ => ?_, fun z => Bool.noConfusion z⟩
      simp only [WD]
      refine ⟨congrArg D.bl ?_, trivial⟩
      rw [Bool.eq_iff_iff]
      simp [num0]
    · refine all_wp ?_
      simp only [br_bl]
      rw [res]
      refine ⟨fun z1 => ?_, fun z1 => ⟨by rw [z1]; rfl, gc_len rfl⟩⟩
      rw [z1, Bool.true_and]
      refine wp_idx (xs := [.tup ks, b]) (d := b) rfl rfl ?_
      refine wp_mono (isnum_wp fi1 fi2 fi3 fi4 (okT1_plain hb')) ?_
      rintro r T' ⟨rfl, rfl⟩
      cases b <;> first | exact ⟨_, rfl, fun z => Bool.noConfusion z, fun _ => ⟨rfl, gc_len rfl⟩⟩ | skip
      rename_i i
      refine ⟨_, rfl, fun _ => ?_, fun z => Bool.noConfusion z⟩
      refine wp_idx (xs := [.tup ks, .int i]) (d := .int i) rfl rfl ?_
      simp only [WD]
      exact ⟨rfl, gc_len rfl⟩
end Pz

set_option Elab.async false
set_option linter.all false
set_option maxRecDepth 100000
set_option maxHeartbeats 1000000
/-! U12: is_rows. -/
namespace Pz
open PySem
def isrowsBody (ir : Nat) : List S := [.ifs (.or (.not (.isO (.var 1) [.blt .tuple])) (.not (.blt .all [.comp [4] (.name 4) (.seq (.var 1)) none (.call ir [.blt .len [.var 0], .var 4])]))) [.ret (.bl false)] [],
    .ret (.blt .all [.comp [2, 3] (.tup [.name 2, .name 3]) (.zip (.var 1) (.slc (.var 1) (some (.int 1)) none)) none (.cmp .lt (.idx (.var 2) (.int 0)) (.idx (.var 3) (.int 0)))])]
theorem wisO {P : Prog} {T : Store} {a : D} {Q : D → Store → Prop} (h : plainD a = true) : wp (isOD P a [.blt .tuple]) T Q = Q (.bl (isTupD a)) T := by
  cases a <;> first | (cases h; done) | exact wok rfl
/-- each of its items is plain -/
def okR : D → Bool
  | .tup xs => Nat.blt xs.length 1000 && xs.all okT
  | x => plainD x
theorem okR_plain {x : D} (h : okR x = true) : plainD x = true := by
  cases x <;> first | rfl | exact h
/-- each of its items is a row -/
def rowsF (many : Nat) : D → Bool
  | .tup xs => xs.all (isRowF many)
  | _ => false
/-- the keys ascend -/
def ascB (rs : List Row) : Bool := (rs.zip (rs.drop 1)).all fun p => lexI p.1.1 p.2.1
theorem ascB_cons {a b : Row} {l : List Row} : ascB (a :: b :: l) = (lexI a.1 b.1 && ascB (b :: l)) := rfl
theorem ascB_iff : ∀ (rs : List Row), ascB rs = true ↔ rs.Pairwise fun a b => lexI a.1 b.1 = true
  | [] => by simp [ascB]
  | [a] => by simp [ascB]
  | a :: b :: l => by
    rw [ascB_cons, Bool.and_eq_true, ascB_iff (b :: l), List.pairwise_cons (a := a)]
    constructor
    · rintro ⟨h1, h2⟩
      refine ⟨fun x hx => ?_, h2⟩
      rcases List.mem_cons.mp hx with rfl | hx
      · exact h1
      · exact lexI_trans h1 ((List.pairwise_cons.mp h2).1 x hx)
    · rintro ⟨h1, h2⟩
      exact ⟨h1 b (by simp), h2⟩
theorem cut_one {α : Type} (xs : List α) : cutD xs (some 1) none = xs.drop 1 := by
  have h1 : HT.sIx xs.length 0 (some 1) = min 1 xs.length := sIx_top (top := 1)
  have h2 : HT.sIx xs.length xs.length none = xs.length := rfl
  unfold cutD
  rw [h1, h2]
  cases xs with
  | nil => rfl
  | cons x xs =>
    rw [show min 1 (x :: xs).length = 1 from by simp]
    simp
theorem zipL_rows : ∀ (a b : List Row), zipL (a.map rowD) (b.map rowD) = (a.zip b).map fun p => .tup [rowD p.1, rowD p.2]
  | [], _ => rfl
  | _ :: _, [] => rfl
  | x :: a, y :: b => by simp only [List.map_cons, zipL, List.zip_cons_cons, zipL_rows a b]
theorem shal_ints (n : Nat) : ∀ a : List Int, (a.map D.int).all (shal n) = true
  | [] => rfl
  | x :: a => by
    simp only [List.map_cons, List.all_cons, shal_ints n a, Bool.and_true]
    cases n <;> rfl
theorem lt_keys (a b : List Int) : ltT (keyD a) (keyD b) = some (lexI a b) := by
  show (match alikeDs (a.map D.int) (b.map D.int) && alikeDs (a.map D.int) (a.map D.int) && alikeDs (b.map D.int) (b.map D.int) && (a.map D.int).all (shal 19) && (b.map D.int).all (shal 19) with
    | true => some (lessDs (a.map D.int) (b.map D.int))
    | false => none) = _
  simp only [alike_ints, shal_ints, Bool.and_self, lessDs_int]
section
variable {P : Prog} {n f fr fi cp : Nat} {fn rn inn : Fn} {nm : Str} {ls : List D}
  (hf : P.fns[f]? = some fn) (hb : fn.body = isrowsBody fr) (hp : fn.ps.length = 2) (hN : fn.N.length = 5)
  (fr1 : P.fns[fr]? = some rn) (fr2 : rn.body = isrowBody fi cp) (fr3 : rn.ps.length = 2) (fr4 : rn.N.length = 3)
  (fi1 : P.fns[fi]? = some inn) (fi2 : inn.body = isnumBody) (fi3 : inn.ps.length = 1) (fi4 : inn.N.length = 1) (hc : P.cns[cp]? = some (nm, .int 2))
include hf hb hp hN fr1 fr2 fr3 fr4 fi1 fi2 fi3 fi4 hc
/-- the first half -/
theorem isrows_front {T : Store} {l x : D} {Q : D → Store → Prop} (hl : l = .lst ls ∨ l = .lab ls) (hx : okR x = true)
    (q1 : rowsF ls.length x = false → Q (.bl false) T)
    (q2 : rowsF ls.length x = true → wp (execs P (callN P (n + 2)) ((isrowsBody fr).drop 1) [some l, some x, none, none, none]) T fun fl T' => ∃ d, fl = .rt d ∧ Q d (gcS fn.gc T T' d)) : wp (callN P (n + 3) f [l, x]) T Q := by
  refine wp_fn hf (by rw [hp, hN]; rfl) ?_
  rw [hb, hN]
  show wp (execs P (callN P (n + 2)) (isrowsBody fr) [some l, some x, none, none, none]) T _
  have no : ∀ (ss : List S) (env : Env) (R : Fl → Store → Prop), R (.rt (.bl false)) T → wp (execs P (callN P (n + 2)) (.ret (.bl false) :: ss) env) T R := fun ss env R h => ws_ret (by simp only [W]; exact h)
  have fin : rowsF ls.length x = false → Q (.bl false) (gcS fn.gc T T (.bl false)) := fun e => by rw [gc_len rfl]; exact q1 e
  have hlen : ∀ T (Q : D → Store → Prop), wp (bltD .len [l]) T Q = Q (.int ls.length) T := by
    intro T Q
    rcases hl with rfl | rfl <;> exact wok rfl
  refine ws_if ?_
  simp only [W, WR, EG, vr_some, wisO (okR_plain hx)]
  simp only [WD, br_bl]
  refine ⟨fun z => ⟨_, rfl, fun _ => no _ _ _ (fin ?_), fun z => Bool.noConfusion z⟩, fun z => ?_⟩
  · cases x <;> first | rfl | cases z
  cases x <;> first | (cases z; done) | skip
  rename_i xs
  simp only [okR, Bool.and_eq_true, Nat.blt_eq] at hx
  have hxs : ∀ a ∈ xs, okT a = true := by simpa using hx.2
  refine we_map (T1 := T) (g := []) id (fun k => .bl (isRowF ls.length k)) xs ?_ rfl (Nat.le_trans (Nat.le_of_lt hx.1) (by decide)) ?_ ?_
  · simp only [W, WR, EG, vr_some, WD]
    simp
  · intro k hk
    refine ⟨[some l, some (.tup xs), none, none, some k], rfl, ?_⟩
    simp only [W, WR, EG, vr_some, hlen]
    exact isrow_wp fr1 fr2 fr3 fr4 fi1 fi2 fi3 fi4 hc (hxs k hk)
  · refine all_wp ?_
    simp only [WD]
    refine ⟨_, rfl, fun z => no _ _ _ (fin (show xs.all _ = false by cases h : xs.all (isRowF ls.length) <;> first | rfl | (rw [h] at z; cases z))), fun z => ?_⟩
    refine wp_mono (q2 (show xs.all _ = true by cases h : xs.all (isRowF ls.length) <;> first | rfl | (rw [h] at z; cases z))) ?_
    rintro fl T' ⟨d, rfl, h⟩
    exact h
/-- what are no rows -/
theorem isrows_no {T : Store} {l x : D} (hl : l = .lst ls ∨ l = .lab ls) (hx : okR x = true) (h : rowsF ls.length x = false) : wp (callN P (n + 3) f [l, x]) T fun r T' => r = .bl false ∧ T' = T :=
  isrows_front hf hb hp hN fr1 fr2 fr3 fr4 fi1 fi2 fi3 fi4 hc hl hx (fun _ => ⟨rfl, rfl⟩) fun z => by rw [h] at z; cases z
/-- rows: their order -/
theorem isrows_rows {T : Store} {l : D} {rs : List Row} (hl : l = .lst ls ∨ l = .lab ls) (hm : ls.length < 1000) (hrl : rs.length < 1000) (hr : ∀ r ∈ rs, r.1.length = ls.length ∧ (∀ v ∈ r.1, 0 ≤ v) ∧ 0 < r.2) : wp (callN P (n + 3) f [l, .tup (rs.map rowD)]) T fun r T' => r = .bl (ascB rs) ∧ T' = T := by
  have h1 : ∀ r ∈ rs, okT (rowD r) = true ∧ isRowF ls.length (rowD r) = true := by
    intro r hr'
    obtain ⟨g1, g2, g3⟩ := hr r hr'
    constructor
    · show ([keyD r.1, .int r.2].all okT1) = true
      simp only [List.all_cons, List.all_nil, Bool.and_true, Bool.and_eq_true]
      refine ⟨?_, rfl⟩
      show (Nat.blt (r.1.map D.int).length 1000 && (r.1.map D.int).all plainD) = true
      rw [Bool.and_eq_true, Nat.blt_eq, List.length_map, g1]
      refine ⟨hm, ?_⟩
      simp only [List.all_map, List.all_eq_true]
      exact fun _ _ => rfl
    · show (Nat.beq (r.1.map D.int).length ls.length && (r.1.map D.int).all num0 && decide (0 < r.2)) = true
      simp only [Bool.and_eq_true, Nat.beq_eq, List.length_map, List.all_map, List.all_eq_true, decide_eq_true_eq]
      exact ⟨⟨g1, fun v hv => decide_eq_true (g2 v hv)⟩, g3⟩
  refine isrows_front hf hb hp hN fr1 fr2 fr3 fr4 fi1 fi2 fi3 fi4 hc hl ?_ (fun z => ?_) fun _ => ?_
  · show (Nat.blt (rs.map rowD).length 1000 && (rs.map rowD).all okT) = true
    simp only [Bool.and_eq_true, Nat.blt_eq, List.length_map, List.all_map, List.all_eq_true]
    exact ⟨hrl, fun r hr' => (h1 r hr').1⟩
  · exfalso
    have : rowsF ls.length (.tup (rs.map rowD)) = true := by
      show (rs.map rowD).all (isRowF ls.length) = true
      simp only [List.all_map, List.all_eq_true]
      exact fun r hr' => (h1 r hr').2
    rw [this] at z
    cases z
  show wp (execs P (callN P (n + 2)) [.ret (.blt .all [.comp [2, 3] (.tup [.name 2, .name 3]) (.zip (.var 1) (.slc (.var 1) (some (.int 1)) none)) none (.cmp .lt (.idx (.var 2) (.int 0)) (.idx (.var 3) (.int 0)))])] _) T _
  refine ws_ret ?_
  simp only [W, WR, EG, vr_some]
  refine we_map (T1 := T) (g := []) (fun p : Row × Row => .tup [rowD p.1, rowD p.2]) (fun p => .bl (lexI p.1.1 p.2.1)) (rs.zip (rs.drop 1)) ?_ rfl ?_ ?_ ?_
  · simp only [W, WR, EG, vr_some, WD, WO, D.int.injEq, exists_eq_left']
    rw [cut_one, ← List.map_drop, zipL_rows]
    exact ⟨rfl, trivial⟩
  · rw [List.length_zip]
    exact Nat.le_trans (Nat.min_le_left _ _) (Nat.le_trans (Nat.le_of_lt hrl) (by decide))
  · intro p hp'
    refine ⟨[some l, some (.tup (rs.map rowD)), some (rowD p.1), some (rowD p.2), none], rfl, ?_⟩
    simp only [W, WR, EG, vr_some]
    refine wp_idx (xs := [keyD p.1.1, .int p.1.2]) (d := keyD p.1.1) rfl rfl ?_
    refine wp_idx (xs := [keyD p.2.1, .int p.2.2]) (d := keyD p.2.1) rfl rfl ?_
    refine wp_ok (a := .bl (lexI p.1.1 p.2.1)) (T' := T) ?_ ⟨rfl, rfl⟩
    show optB (ltT (keyD p.1.1) (keyD p.2.1)) T = _
    rw [lt_keys]
    rfl
  · refine all_wp ?_
    exact ⟨_, rfl, rfl, gc_len rfl⟩
end
end Pz

set_option Elab.async false
set_option linter.all false
set_option maxRecDepth 100000
set_option maxHeartbeats 1000000
/-! U13: how much is added up; _law_same of truths. -/
namespace Pz
open PySem
theorem getF_set (k : List Int) (v : Int) (k' : List Int) : ∀ (kvs : List Row), getF (setF' kvs k v) k' = if k = k' then (getF kvs k').map (fun _ => v) else getF kvs k'
  | [] => by simp [setF', getF]
  | r :: rs => by
    have ih := getF_set k v k' rs
    unfold setF'
    by_cases h : r.1 = k
    · rw [if_pos h]
      unfold getF
      by_cases h2 : r.1 = k'
      · have : k = k' := h.symm.trans h2
        simp [h2, this]
      · simp only [h2, if_false]
        exact ih
    · rw [if_neg h]
      unfold getF
      by_cases h2 : r.1 = k'
      · have : ¬ k = k' := fun e => h (h2.trans e.symm)
        simp [h2, this]
      · simp only [h2, if_false]
        exact ih
theorem getF_app (k : List Int) (v : Int) (k' : List Int) : ∀ (kvs : List Row), getF (kvs ++ [(k, v)]) k' = (getF kvs k').or (if k = k' then some v else none)
  | [] => by simp [getF]
  | r :: rs => by
    simp only [List.cons_append, getF, getF_app k v k' rs]
    by_cases h : r.1 = k'
    · simp [h]
    · simp [h]
theorem getF_put (kvs : List Row) (k : List Int) (v : Int) (k' : List Int) : getF (putF kvs k v) k' = if k = k' then some v else getF kvs k' := by
  unfold putF
  by_cases h : k = k'
  · subst h
    rw [if_pos rfl]
    split
    · rename_i hs
      rw [getF_set, if_pos rfl]
      cases e : getF kvs k with
      | none => rw [e] at hs; cases hs
      | some _ => rfl
    · rename_i hs
      rw [getF_app, if_pos rfl]
      cases e : getF kvs k with
      | none => rfl
      | some _ => rw [e] at hs; exact absurd rfl hs
  · rw [if_neg h]
    split
    · rw [getF_set, if_neg h]
    · rw [getF_app, if_neg h]
      cases getF kvs k' <;> rfl
/-- the amounts with this key -/
def sumK (k : List Int) (rows : List Row) : Int := (rows.map fun r => if r.1 = k then r.2 else 0).sum
theorem addK_get (rows : List Row) (k : List Int) : (getF (addK rows) k).getD 0 = sumK k rows := by
  have : ∀ (rows kvs : List Row), (getF (rows.foldl addS kvs) k).getD 0 = (getF kvs k).getD 0 + sumK k rows := by
    intro rows
    induction rows with
    | nil => intro kvs; simp [sumK]
    | cons r rs ih =>
      intro kvs
      rw [List.foldl_cons, ih]
      have h1 : (getF (addS kvs r) k).getD 0 = (getF kvs k).getD 0 + (if r.1 = k then r.2 else 0) := by
        unfold addS
        rw [getF_put]
        by_cases h : r.1 = k
        · simp [h]
        · simp [h]
      rw [h1]
      simp only [sumK, List.map_cons, List.sum_cons]
      omega
  have h := this rows []
  simp only [getF, Option.getD_none, Int.zero_add] at h
  exact h
theorem sumK_nonneg {k : List Int} : ∀ {rows : List Row}, (∀ r ∈ rows, 0 ≤ r.2) → 0 ≤ sumK k rows
  | [], _ => by simp [sumK]
  | r :: rs, h => by
    have h1 := h r (by simp)
    have h2 := sumK_nonneg (k := k) (rows := rs) fun r hr => h r (by simp [hr])
    simp only [sumK, List.map_cons, List.sum_cons] at h2 ⊢
    split <;> omega
theorem sumK_le {k : List Int} {B : Int} (hB : 0 ≤ B) : ∀ {rows : List Row}, (∀ r ∈ rows, r.2 ≤ B) → sumK k rows ≤ B * rows.length
  | [], _ => by simp [sumK]
  | r :: rs, h => by
    have h1 := h r (by simp)
    have h2 := sumK_le (k := k) hB (rows := rs) fun r hr => h r (by simp [hr])
    simp only [sumK, List.map_cons, List.sum_cons] at h2 ⊢
    have e : B * ((r :: rs).length : Nat) = B + B * (rs.length : Nat) := by
      simp only [List.length_cons, Int.natCast_add, Int.mul_add]
      omega
    rw [e]
    split <;> omega
theorem addedF_len {rows : List Row} : (addedF rows).length ≤ rows.length := by
  unfold addedF
  rw [List.length_map]
  refine Nat.le_trans (List.length_filter_le _ _) ?_
  rw [(sortK_perm _).length_eq, List.length_map]
  exact addK_len
theorem addedF_amt {rows : List Row} {r : Row} (h : r ∈ addedF rows) : r.2 = sumK r.1 rows := by
  unfold addedF at h
  obtain ⟨k, hk, rfl⟩ := List.mem_map.mp h
  exact addK_get rows k
theorem mem_addedF {rows : List Row} {k : List Int} (h : 0 < sumK k rows) : (k, sumK k rows) ∈ addedF rows := by
  unfold addedF
  refine List.mem_map.mpr ⟨k, ?_, by rw [addK_get]⟩
  refine List.mem_filter.mpr ⟨?_, decide_eq_true (by rw [addK_get]; exact h)⟩
  refine (sortK_perm _).mem_iff.mpr ?_
  refine Decidable.byContradiction fun hn => ?_
  have := getF_none.mpr hn
  have e := addK_get rows k
  rw [this] at e
  simp only [Option.getD_none] at e
  omega
/-! ### _law_same -/
def sameBody (is : Nat) : List S := [.ifs (.isi (.var 1) [.list, .tuple]) [.ifs (.or (.cmp .ne (.isi (.var 0) [.list]) (.isi (.var 1) [.list])) (.cmp .ne (.isi (.var 0) [.tuple]) (.isi (.var 1) [.tuple]))) [.ret (.bl false)] [],
    .ret (.and (.cmp .eq (.blt .len [.var 0]) (.blt .len [.var 1])) (.blt .all [.comp [2, 3] (.tup [.name 2, .name 3]) (.zip (.var 0) (.var 1)) none (.call is [.var 2, .var 3])]))] [],
    .ifs (.or (.cmp .is (.var 1) (.non)) (.isi (.var 1) [.bool, .str])) [.ret (.and (.cmp .eq (.var 0) (.var 1)) (.and (.cmp .eq (.isi (.var 0) [.bool]) (.isi (.var 1) [.bool])) (.cmp .eq (.cmp .is (.var 0) (.non)) (.cmp .is (.var 1) (.non)))))] [],
    .ret (.and (.isi (.var 0) [.int]) (.and (.not (.isi (.var 0) [.bool])) (.cmp .eq (.var 0) (.var 1))))]
section
variable {P : Prog} {f : Nat} {fn : Fn} (hf : P.fns[f]? = some fn) (hb : fn.body = sameBody f) (hp : fn.ps.length = 2) (hN : fn.N.length = 4)
include hf hb hp hN
theorem same_bl {n : Nat} {T : Store} {a : Bool} : wp (callN P (n + 1) f [.bl a, .bl a]) T fun r T' => r = .bl true ∧ T' = T := by
  refine wp_fn hf (by rw [hp, hN]; rfl) ?_
  rw [hb, hN]
  show wp (execs P (callN P n) (sameBody f) [some (.bl a), some (.bl a), none, none]) T _
  refine ws_if ?_
  simp only [W, WR, EG, vr_some]
  refine wp_ok (a := .bl false) (T' := T) rfl ?_
  refine ⟨_, rfl, fun z => Bool.noConfusion z, fun _ => ?_⟩
  refine ws_if ?_
  simp only [W, WR, EG, vr_some]
  refine wp_ok (a := .bl false) (T' := T) rfl ?_
  simp only [br_bl]
  refine ⟨fun z => Bool.noConfusion z, fun _ => ?_⟩
  refine wp_ok (a := .bl true) (T' := T) rfl ?_
  refine ⟨_, rfl, fun _ => ?_, fun z => Bool.noConfusion z⟩
  refine ws_ret ?_
  simp only [W, WR, EG, vr_some]
  refine wp_ok (a := .bl true) (T' := T) (by cases a <;> rfl) ?_
  simp only [br_bl]
  refine ⟨fun _ => ?_, fun z => Bool.noConfusion z⟩
  refine wp_ok (a := .bl true) (T' := T) rfl ?_
  refine wp_ok (a := .bl true) (T' := T) rfl ?_
  refine wp_ok (a := .bl true) (T' := T) rfl ?_
  simp only [br_bl]
  refine ⟨fun _ => ?_, fun z => Bool.noConfusion z⟩
  refine wp_ok (a := .bl false) (T' := T) rfl ?_
  refine wp_ok (a := .bl false) (T' := T) rfl ?_
  refine wp_ok (a := .bl true) (T' := T) rfl ?_
  exact ⟨rfl, gc_len rfl⟩
omit hf hb hp hN in
theorem zipL_self : ∀ (bs : List Bool), zipL (bs.map D.bl) (bs.map D.bl) = bs.map fun b => .tup [.bl b, .bl b]
  | [] => rfl
  | b :: bs => by simp only [List.map_cons, zipL, zipL_self bs]
theorem same_bls {n : Nat} {T : Store} {bs : List Bool} (hl : bs.length < 1000) : wp (callN P (n + 2) f [.lst (bs.map D.bl), .lst (bs.map D.bl)]) T fun r T' => r = .bl true ∧ T' = T := by
  refine wp_fn hf (by rw [hp, hN]; rfl) ?_
  rw [hb, hN]
  show wp (execs P (callN P (n + 1)) (sameBody f) [some (.lst (bs.map D.bl)), some (.lst (bs.map D.bl)), none, none]) T _
  refine ws_if ?_
  simp only [W, WR, EG, vr_some]
  refine wp_ok (a := .bl true) (T' := T) rfl ?_
  refine ⟨_, rfl, fun _ => ?_, fun z => Bool.noConfusion z⟩
  refine ws_if ?_
  simp only [W, WR, EG, vr_some]
  refine wp_ok (a := .bl true) (T' := T) rfl ?_
  refine wp_ok (a := .bl true) (T' := T) rfl ?_
  refine wp_ok (a := .bl false) (T' := T) rfl ?_
  simp only [br_bl]
  refine ⟨fun z => Bool.noConfusion z, fun _ => ?_⟩
  refine wp_ok (a := .bl false) (T' := T) rfl ?_
  refine wp_ok (a := .bl false) (T' := T) rfl ?_
  refine wp_ok (a := .bl false) (T' := T) rfl ?_
  refine ⟨_, rfl, fun z => Bool.noConfusion z, fun _ => ?_⟩
  refine ws_ret ?_
  simp only [W, WR, EG, vr_some, WD]
  rw [show (((bs.map D.bl).length : Int) == ((bs.map D.bl).length : Int)) = true from by simp]
  simp only [br_bl]
  refine ⟨fun _ => ?_, fun z => Bool.noConfusion z⟩
  refine we_map (T1 := T) (g := []) (fun b : Bool => .tup [.bl b, .bl b]) (fun _ => .bl ((fun _ => true) ())) bs ?_ rfl (Nat.le_trans (Nat.le_of_lt hl) (by decide)) ?_ ?_
  · simp only [W, WR, EG, vr_some]
    refine wp_ok (a := (zipL (bs.map D.bl) (bs.map D.bl), [])) (T' := T) rfl ?_
    rw [zipL_self]
    exact ⟨rfl, rfl⟩
  · intro b _
    refine ⟨[some (.lst (bs.map D.bl)), some (.lst (bs.map D.bl)), some (.bl b), some (.bl b)], rfl, ?_⟩
    simp only [W, WR, EG, vr_some]
    exact same_bl hf hb hp hN
  · refine all_wp (p := fun _ => true) ?_
    refine ⟨by simp, gc_len rfl⟩
end
end Pz

set_option Elab.async false
set_option linter.all false
set_option maxRecDepth 100000
set_option maxHeartbeats 1000000
/-! U14: things that are bent. -/
namespace Pz
open PySem
theorem lim_of {n : Nat} (h : n < 100000) : lim n = true := by
  unfold lim
  rw [Nat.ble_eq]
  exact Nat.le_trans (Nat.le_of_lt h) (by decide)
theorem wp_addT {T : Store} {a b : List D} {Q : D → Store → Prop} (h : a.length + b.length < 100000) (q : Q (.tup (a ++ b)) T) : wp (opD .add (.tup a) (.tup b)) T Q := by
  refine wp_ok (a := .tup (a ++ b)) (T' := T) ?_ q
  show okIf (lim (a.length + b.length)) (D.tup (a ++ b)) T = _
  rw [lim_of h]
  rfl
theorem wp_addL {T : Store} {a b : List D} {Q : D → Store → Prop} (h : a.length + b.length < 100000) (q : Q (.lst (a ++ b)) T) : wp (opD .add (.lst a) (.lst b)) T Q := by
  refine wp_ok (a := .lst (a ++ b)) (T' := T) ?_ q
  show okIf (lim (a.length + b.length)) (D.lst (a ++ b)) T = _
  rw [lim_of h]
  rfl
theorem flat_one {α : Type} (x : α) : ∀ n, (List.replicate n [x]).flatten = List.replicate n x
  | 0 => rfl
  | n + 1 => by simp only [List.replicate_succ, List.flatten_cons, flat_one x n]; rfl
theorem wp_mulL {T : Store} {x : D} {n : Nat} {Q : D → Store → Prop} (h : n < 1000) (q : Q (.lst (List.replicate n x)) T) : wp (opD .mul (.lst [x]) (.int n)) T Q := by
  refine wp_ok (a := .lst (List.replicate n x)) (T' := T) ?_ q
  have e1 : decide (-(2 ^ 63) ≤ (n : Int)) = true := decide_eq_true (by omega)
  have e2 : decide ((n : Int) < 2 ^ 63) = true := decide_eq_true (by omega)
  have e3 : lim ([x].length * n) = true := lim_of (by simp; omega)
  unfold opD
  simp only [isList, e1, e2, e3, Bool.and_self, Int.toNat_natCast, flat_one]
  rfl
theorem wp_mulT {T : Store} {x : D} {n : Nat} {Q : D → Store → Prop} (h0 : 0 < n) (h : n ≤ 1000) (q : Q (.tup (List.replicate n x)) T) : wp (opD .mul (.tup [x]) (.int n)) T Q := by
  refine wp_ok (a := .tup (List.replicate n x)) (T' := T) ?_ q
  show okIf (!([x] : List D).isEmpty && decide (1 ≤ (n : Int)) && decide ((n : Int) ≤ 1000) && Nat.ble ([x] : List D).length 1000) (D.tup (List.replicate (n : Int).toNat [x]).flatten) T = _
  rw [Int.toNat_natCast, flat_one, decide_eq_true (show 1 ≤ (n : Int) by omega), decide_eq_true (show (n : Int) ≤ 1000 by omega)]
  rfl
theorem wp_if1 {T : Store} {x : D} {b : Bool} {Q : D → Store → Prop} (q : Q (.lst (if b then [x] else [])) T) : wp (opD .mul (.lst [x]) (.int (if b then 1 else 0))) T Q := by
  cases b
  · exact wp_mulL (n := 0) (by omega) q
  · exact wp_mulL (n := 1) (by omega) q
theorem mem_cut {α : Type} {xs : List α} {lo hi : Option Int} {x : α} (h : x ∈ cutD xs lo hi) : x ∈ xs := List.mem_of_mem_drop (List.mem_of_mem_take h)
theorem len_cut {α : Type} {xs : List α} {lo hi : Option Int} : (cutD xs lo hi).length ≤ xs.length := by
  unfold cutD
  rw [List.length_take, List.length_drop]
  omega
/-- the bits of the law -/
def bits (vs : List Int) (m : Int) : List D := [.tup [keyD vs, .int 0], .tup [keyD vs, .int (-m)], .tup [.tup (vs.map D.int ++ [.int 0]), .int m], .tup [.tup (cutD (vs.map D.int) (some 1) none), .int m], .lst [keyD vs, .int m],
  .tup [.lst (vs.map D.int), .int m], .tup [keyD vs, .bl true], .tup [keyD vs, .str (toString m)], .tup [.tup (cutD (vs.map D.int) none (some (-1)) ++ [.non]), .int m], .tup [.tup ([.int (-1)] ++ cutD (vs.map D.int) (some 1) none), .int m],
  .tup [.tup (cutD (vs.map D.int) none (some (-1)) ++ [.int (-1)]), .int m], .tup [keyD vs, .int m, .int m], .non]
def bentAt (M : List D) (k : Nat) (b : D) : D := .tup (cutD M none (some (k : Int)) ++ [b] ++ cutD M (some ((k : Int) + 1)) none)
def things (M : List D) (k : Nat) (r : Row) : List D := (bits r.1 r.2).map (bentAt M k) ++ [.tup (M ++ [rowD r]), .lst M, rowD r] ++ (if decide (1 < M.length) then [.tup M.reverse] else [])
theorem okT1_ints {l : List D} (h : l.length < 1000) (h2 : ∀ x ∈ l, plainD x = true) : okT1 (.tup l) = true := by
  show (Nat.blt l.length 1000 && l.all plainD) = true
  rw [Bool.and_eq_true, Nat.blt_eq, List.all_eq_true]
  exact ⟨h, h2⟩
theorem plain_ints {vs : List Int} {x : D} (h : x ∈ vs.map D.int) : plainD x = true := by
  obtain ⟨i, _, rfl⟩ := List.mem_map.mp h
  rfl
theorem okT1_key {vs : List Int} (h : vs.length < 900) : okT1 (keyD vs) = true := okT1_ints (by rw [List.length_map]; omega) fun _ hx => plain_ints hx
theorem not_all {α : Type} {p : α → Bool} {l : List α} {x : α} (h : x ∈ l) (hp : p x = false) : l.all p = false := by
  rw [← Bool.not_eq_true, List.all_eq_true]
  intro hh
  rw [hh x h] at hp
  cases hp
theorem isRow_len {w : Nat} {ks : List D} {b : D} (h : ks.length ≠ w) : isRowF w (.tup [.tup ks, b]) = false := by
  show (Nat.beq ks.length w && ks.all num0 && num1 b) = false
  rw [show Nat.beq ks.length w = false from by rw [← Bool.not_eq_true, Nat.beq_eq]; exact h]
  rfl
theorem isRow_key {w : Nat} {ks : List D} {b x : D} (h : x ∈ ks) (hx : num0 x = false) : isRowF w (.tup [.tup ks, b]) = false := by
  show (Nat.beq ks.length w && ks.all num0 && num1 b) = false
  rw [not_all h hx, Bool.and_false]
  rfl
theorem isRow_amt {w : Nat} {ks : List D} {b : D} (h : num1 b = false) : isRowF w (.tup [.tup ks, b]) = false := by
  show (Nat.beq ks.length w && ks.all num0 && num1 b) = false
  rw [h, Bool.and_false]
/-- no bit is a row -/
theorem bits_no {w : Nat} {vs : List Int} {m : Int} (hw : vs.length = w) (h0 : 0 < w) (h1 : w < 900) (hm : 0 < m) : ∀ b ∈ bits vs m, isRowF w b = false ∧ okT b = true := by
  have k1 : okT1 (keyD vs) = true := okT1_key (by omega)
  have hl : ∀ lo hi, (cutD (vs.map D.int) lo hi).length ≤ w := fun lo hi => by rw [← hw, ← List.length_map (f := D.int) (as := vs)]; exact len_cut
  have hpl : ∀ lo hi, ∀ x ∈ cutD (vs.map D.int) lo hi, plainD x = true := fun lo hi x hx => plain_ints (mem_cut hx)
  have two : ∀ a b : D, okT1 a = true → okT1 b = true → okT (.tup [a, b]) = true := fun a b ha hb => by
    show [a, b].all okT1 = true
    simp [ha, hb]
  have app : ∀ lo hi (x : D), plainD x = true → okT1 (.tup (cutD (vs.map D.int) lo hi ++ [x])) = true := fun lo hi x hx => okT1_ints (by have := hl lo hi; simp only [List.length_append, List.length_cons, List.length_nil]; omega) fun y hy => by
    rcases List.mem_append.mp hy with hy | hy
    · exact hpl lo hi y hy
    · simp only [List.mem_singleton] at hy; subst hy; exact hx
  intro b hb
  simp only [bits, List.mem_cons, List.not_mem_nil, or_false] at hb
  rcases hb with rfl | rfl | rfl | rfl | rfl | rfl | rfl | rfl | rfl | rfl | rfl | rfl | rfl
  · exact ⟨isRow_amt rfl, two _ _ k1 rfl⟩
  · exact ⟨isRow_amt (decide_eq_false (by omega)), two _ _ k1 rfl⟩
  · refine ⟨isRow_len (by simp [hw]), two _ _ (okT1_ints (by simp [hw]; omega) fun y hy => ?_) rfl⟩
    rcases List.mem_append.mp hy with hy | hy
    · exact plain_ints hy
    · simp only [List.mem_singleton] at hy; subst hy; rfl
  · refine ⟨isRow_len ?_, two _ _ (okT1_ints (by have := hl (some 1) none; omega) (hpl _ _)) rfl⟩
    rw [cut_one, List.length_drop, List.length_map]
    omega
  · exact ⟨rfl, rfl⟩
  · exact ⟨rfl, two _ _ rfl rfl⟩
  · exact ⟨isRow_amt rfl, two _ _ k1 rfl⟩
  · exact ⟨isRow_amt rfl, two _ _ k1 rfl⟩
  · exact ⟨isRow_key (x := .non) (by simp) rfl, two _ _ (app _ _ _ rfl) rfl⟩
  · refine ⟨isRow_key (x := .int (-1)) (by simp) rfl, two _ _ (okT1_ints (by have := hl (some 1) none; simp only [List.length_append, List.length_cons, List.length_nil]; omega) fun y hy => ?_) rfl⟩
    rcases List.mem_append.mp hy with hy | hy
    · simp only [List.mem_singleton] at hy; subst hy; rfl
    · exact hpl _ _ y hy
  · exact ⟨isRow_key (x := .int (-1)) (by simp) rfl, two _ _ (app _ _ _ rfl) rfl⟩
  · refine ⟨rfl, ?_⟩
    show [keyD vs, .int m, .int m].all okT1 = true
    simp only [List.all_cons, k1, List.all_nil, Bool.and_true, Bool.true_and]
    rfl
  · exact ⟨rfl, rfl⟩
/-- rows as a Table has them -/
def Fine (w : Nat) (r : Row) : Prop := r.1.length = w ∧ (∀ v ∈ r.1, 0 ≤ v) ∧ 0 < r.2
theorem okT_row {w : Nat} {r : Row} (h : Fine w r) (h1 : w < 900) : okT (rowD r) = true := by
  show [keyD r.1, .int r.2].all okT1 = true
  have := okT1_key (vs := r.1) (by rw [h.1]; exact h1)
  simp only [List.all_cons, this, List.all_nil, Bool.and_true, Bool.true_and]
  rfl
section
variable {P : Prog} {n f fr fi cp : Nat} {fn rn inn : Fn} {nm : Str} {ls : List D}
  (hf : P.fns[f]? = some fn) (hb : fn.body = isrowsBody fr) (hp : fn.ps.length = 2) (hN : fn.N.length = 5)
  (fr1 : P.fns[fr]? = some rn) (fr2 : rn.body = isrowBody fi cp) (fr3 : rn.ps.length = 2) (fr4 : rn.N.length = 3)
  (fi1 : P.fns[fi]? = some inn) (fi2 : inn.body = isnumBody) (fi3 : inn.ps.length = 1) (fi4 : inn.N.length = 1) (hc : P.cns[cp]? = some (nm, .int 2))
include hf hb hp hN fr1 fr2 fr3 fr4 fi1 fi2 fi3 fi4 hc
/-- none of the things is a Table's rows -/
theorem things_no {T : Store} {more : List Row} {k : Nat} {r : Row} (h0 : 0 < ls.length) (h1 : ls.length < 900) (hl : more.length < 900) (hm : ∀ r ∈ more, Fine ls.length r) (asc : more.Pairwise fun a b => lexI a.1 b.1 = true) (hr : r ∈ more) :
    ∀ x ∈ things (more.map rowD) k r, wp (callN P (n + 3) f [.lst ls, x]) T fun v T' => v = .bl false ∧ T' = T := by
  intro x hx
  have fr' := hm r hr
  simp only [things, List.mem_append, List.mem_cons, List.not_mem_nil, or_false] at hx
  rcases hx with (hx | rfl | rfl | rfl) | hx
  · obtain ⟨b, hb', rfl⟩ := List.mem_map.mp hx
    obtain ⟨b1, b2⟩ := bits_no fr'.1 h0 h1 fr'.2.2 b hb'
    refine isrows_no hf hb hp hN fr1 fr2 fr3 fr4 fi1 fi2 fi3 fi4 hc (.inl rfl) ?_ ?_
    · show (Nat.blt (cutD (more.map rowD) none (some (k : Int)) ++ [b] ++ cutD (more.map rowD) (some ((k : Int) + 1)) none).length 1000 && (cutD (more.map rowD) none (some (k : Int)) ++ [b] ++ cutD (more.map rowD) (some ((k : Int) + 1)) none).all okT) = true
      rw [Bool.and_eq_true, Nat.blt_eq, List.all_eq_true]
      have ok : ∀ lo hi, ∀ y ∈ cutD (more.map rowD) lo hi, okT y = true := fun lo hi y hy => by
        obtain ⟨q, hq, rfl⟩ := List.mem_map.mp (mem_cut hy)
        exact okT_row (hm q hq) h1
      refine ⟨?_, fun y hy => ?_⟩
      · have e1 : (cutD (more.map rowD) none (some (k : Int))).length ≤ k := by
          rw [cut_front, List.length_take]
          omega
        have e2 : (cutD (more.map rowD) (some ((k : Int) + 1)) none).length ≤ (more.map rowD).length - k := by
          unfold cutD
          have s1 : HT.sIx (more.map rowD).length 0 (some ((k : Int) + 1)) = min (k + 1) (more.map rowD).length := by
            have := sIx_top (n := (more.map rowD).length) (top := k + 1) (d := 0)
            rw [Int.natCast_add] at this
            exact this
          rw [List.length_take, List.length_drop, s1]
          omega
        have e3 : (cutD (more.map rowD) none (some (k : Int))).length ≤ (more.map rowD).length := len_cut
        rw [List.length_map] at e2 e3
        simp only [List.length_append, List.length_cons, List.length_nil]
        omega
      · rcases List.mem_append.mp hy with hy | hy
        · rcases List.mem_append.mp hy with hy | hy
          · exact ok _ _ y hy
          · simp only [List.mem_singleton] at hy; subst hy; exact b2
        · exact ok _ _ y hy
    · show (cutD (more.map rowD) none (some (k : Int)) ++ [b] ++ cutD (more.map rowD) (some ((k : Int) + 1)) none).all (isRowF ls.length) = false
      exact not_all (x := b) (by simp) b1
  · have e : more.map rowD ++ [rowD r] = (more ++ [r]).map rowD := by simp
    rw [e]
    refine wp_mono (isrows_rows hf hb hp hN fr1 fr2 fr3 fr4 fi1 fi2 fi3 fi4 hc (.inl rfl) (by omega) (by simp; omega) fun q hq => ?_) ?_
    · rcases List.mem_append.mp hq with hq | hq
      · exact hm q hq
      · simp only [List.mem_singleton] at hq; subst hq; exact fr'
    · rintro v T' ⟨rfl, rfl⟩
      refine ⟨?_, rfl⟩
      rw [show ascB (more ++ [r]) = false from ?_]
      rw [← Bool.not_eq_true, ascB_iff, List.pairwise_append]
      rintro ⟨_, _, h⟩
      have := h r hr r (by simp)
      rw [lexI_irr] at this
      cases this
  · exact isrows_no hf hb hp hN fr1 fr2 fr3 fr4 fi1 fi2 fi3 fi4 hc (.inl rfl) rfl rfl
  · refine isrows_no hf hb hp hN fr1 fr2 fr3 fr4 fi1 fi2 fi3 fi4 hc (.inl rfl) ?_ ?_
    · show ([keyD r.1, D.int r.2].all okT) = true
      have : okT (keyD r.1) = true := by
        show (r.1.map D.int).all okT1 = true
        simp only [List.all_map, List.all_eq_true]
        exact fun _ _ => rfl
      simp only [List.all_cons, this, List.all_nil, Bool.and_true, Bool.true_and]
      rfl
    · show ([keyD r.1, D.int r.2].all (isRowF ls.length)) = false
      exact not_all (x := .int r.2) (by simp) rfl
  · split at hx
    rotate_left
    · cases hx
    rename_i h2
    simp only [List.length_map, decide_eq_true_eq] at h2
    simp only [List.mem_cons, List.not_mem_nil, or_false] at hx
    subst hx
    rw [← List.map_reverse]
    refine wp_mono (isrows_rows hf hb hp hN fr1 fr2 fr3 fr4 fi1 fi2 fi3 fi4 hc (.inl rfl) (by omega) (by simp; omega) fun q hq => hm q (by simpa using hq)) ?_
    rintro v T' ⟨rfl, rfl⟩
    refine ⟨?_, rfl⟩
    rw [show ascB more.reverse = false from ?_]
    rw [← Bool.not_eq_true, ascB_iff, List.pairwise_reverse]
    intro h
    match more, h2, asc, h with
    | a :: b :: l, _, asc, h =>
      have e1 := (List.pairwise_cons.mp asc).1 b (by simp)
      have e2 := (List.pairwise_cons.mp h).1 b (by simp)
      have := lexI_trans e1 e2
      rw [lexI_irr] at this
      cases this
end
end Pz

set_option Elab.async false
set_option linter.all false
set_option maxRecDepth 100000
set_option maxHeartbeats 2000000
/-! the plain part of k03 -/
namespace K03
open PySem Pz
theorem by_hand : isT (callN prog 7 i__law_by_hand_right [] []) = true := by decide +kernel
def bentS : List S := [.asg (.name 6) (.lst [.tup [.var 9, .int 0], .tup [.var 9, .neg (.var 10)], .tup [.bin .add (.var 9) (.tup [.int 0]), .var 10], .tup [.slc (.var 9) (some (.int 1)) none, .var 10]]),
    .asg (.name 6) (.bin .add (.var 6) (.lst [.lst [.var 9, .var 10]])),
    .asg (.name 6) (.bin .add (.var 6) (.lst [.tup [.blt .list [.var 9], .var 10], .tup [.var 9, .bl true], .tup [.var 9, .blt .str [.var 10]]])),
    .asg (.name 6) (.bin .add (.var 6) (.lst [.tup [.bin .add (.slc (.var 9) none (some (.neg (.int 1)))) (.tup [.non]), .var 10]])),
    .asg (.name 6) (.bin .add (.var 6) (.lst [.tup [.bin .add (.tup [.neg (.int 1)]) (.slc (.var 9) (some (.int 1)) none), .var 10], .tup [.bin .add (.slc (.var 9) none (some (.neg (.int 1)))) (.tup [.neg (.int 1)]), .var 10], .tup [.var 9, .var 10, .var 10], .non])),
    .asg (.name 7) (.bin .add (.comp [11] (.name 11) (.seq (.var 6)) none (.bin .add (.bin .add (.slc (.var 4) none (some (.var 5))) (.tup [.var 11])) (.slc (.var 4) (some (.bin .add (.var 5) (.int 1))) none))) (.lst [.bin .add (.var 4) (.tup [.idx (.var 4) (.var 5)]), .blt .list [.var 4], .idx (.var 4) (.var 5)])),
    .asg (.name 7) (.bin .add (.var 7) (.bin .mul (.lst [.rev (.var 4)]) (.blt .int [.cmp .gt (.blt .len [.var 4]) (.int 1)])))]
theorem str_ok {T : Store} {m : Int} {Q : D → Store → Prop} (h0 : 0 < m) (h : m < 100000) (q : Q (.str (toString m)) T) : wp (bltD .str [.int m]) T Q := by
  refine wp_ok (a := .str (toString m)) (T' := T) ?_ q
  show okIf (Nat.blt m.natAbs.log2 1920) (D.str (toString m)) T = _
  have : m.natAbs.log2 < 17 := Nat.log2_lt (by omega) |>.mpr (by omega)
  rw [show Nat.blt m.natAbs.log2 1920 = true from by rw [Nat.blt_eq]; omega]
  rfl
/-- the statements that bend -/
theorem bent_wp {call : Nat → List D → M D} {u : D} {e1 : Option D} {tags rows : D} {more : List Row} {k : Nat} {x6 x7 x8 x11 : Option D} {ss : List S} {T : Store} {R : Fl → Store → Prop} (hl : more.length < 900) (hk : k < more.length) (hv : (more[k]).1.length < 900) (h0 : 0 < (more[k]).2) (h1 : (more[k]).2 < 100000)
    (q : ∀ z6 z11, wp (execs prog call ss [some u, e1, some tags, some rows, some (.tup (more.map rowD)), some (.int k), z6, some (.lst (things (more.map rowD) k more[k])), x8, some (keyD (more[k]).1), some (.int (more[k]).2), z11]) T R) :
    wp (execs prog call (bentS ++ ss) [some u, e1, some tags, some rows, some (.tup (more.map rowD)), some (.int k), x6, x7, x8, some (keyD (more[k]).1), some (.int (more[k]).2), x11]) T R := by
  have hc : ∀ lo hi, (cutD ((more[k]).1.map D.int) lo hi).length < 900 := fun lo hi => Nat.lt_of_le_of_lt len_cut (by rw [List.length_map]; exact hv)
  have hcm : ∀ lo hi, (cutD (more.map rowD) lo hi).length < 900 := fun lo hi => Nat.lt_of_le_of_lt len_cut (by rw [List.length_map]; exact hl)
  generalize hrow : more[k] = r at *
  obtain ⟨vs, m⟩ := r
  dsimp only at *
  have at_k : L2.atI (more.map rowD) (k : Int) = some (rowD (vs, m)) := by
    rw [atI_at (by rw [List.length_map]; exact hk), List.getElem_map, hrow]
  unfold bentS
  simp only [List.cons_append, List.nil_append]
  refine ws_asg ?_
  simp only [W, WR, EG, vr_some, WD]
  refine ⟨rfl, rfl, rfl, ?_⟩
  unfold keyD
  refine wp_addT (by simp; omega) ?_
  simp only [W, WR, EG, vr_some, WD, WO, D.int.injEq, exists_eq_left']
  refine ⟨rfl, rfl, rfl, _, rfl, ?_⟩
  simp only [ES]
  refine ws_asg ?_
  simp only [W, WR, EG, vr_some, WD]
  refine ⟨rfl, rfl, ?_⟩
  refine wp_addL (by simp) ?_
  refine ⟨_, rfl, ?_⟩
  simp only [ES]
  refine ws_asg ?_
  simp only [W, WR, EG, vr_some, WD]
  refine ⟨rfl, rfl, ?_⟩
  refine str_ok h0 h1 ?_
  refine ⟨rfl, rfl, ?_⟩
  refine wp_addL (by simp) ?_
  refine ⟨_, rfl, ?_⟩
  simp only [ES]
  refine ws_asg ?_
  simp only [W, WR, EG, vr_some, WD, WO, D.int.injEq, exists_eq_left']
  refine ⟨rfl, ?_⟩
  refine wp_addT (by have := hc none (some (-1)); simp; omega) ?_
  refine ⟨rfl, rfl, ?_⟩
  refine wp_addL (by simp) ?_
  refine ⟨_, rfl, ?_⟩
  simp only [ES]
  refine ws_asg ?_
  simp only [W, WR, EG, vr_some, WD, WO, D.int.injEq, exists_eq_left']
  refine ⟨rfl, ?_⟩
  refine wp_addT (by have := hc (some 1) none; simp; omega) ?_
  refine ⟨rfl, rfl, ?_⟩
  refine wp_addT (by have := hc none (some (-1)); simp; omega) ?_
  refine ⟨rfl, rfl, rfl, ?_⟩
  refine wp_addL (by simp) ?_
  refine ⟨_, rfl, ?_⟩
  simp only [ES]
  refine ws_asg ?_
  simp only [W, WR, EG, vr_some, WD]
  refine we_map (T1 := T) (g := []) id (bentAt (more.map rowD) k) (bits vs m) ?_ rfl (show 13 ≤ sizeLine by decide) ?_ ?_
  · simp only [W, WR, EG, vr_some, WD]
    exact ⟨by simp [bits, keyD], trivial⟩
  · intro b hb
    refine ⟨_, rfl, ?_⟩
    simp only [wipeE, List.foldl, ES, W, WR, EG, vr_some, WD, WO, D.int.injEq, exists_eq_left', id]
    refine ⟨rfl, ?_⟩
    refine wp_addT (by have := hcm none (some (k : Int)); simp; omega) ?_
    refine wp_addT (by have := hcm none (some (k : Int)); have := hcm (some ((k : Int) + 1)) none; simp; omega) ?_
    exact ⟨rfl, rfl⟩
  · refine wp_idx (xs := more.map rowD) (d := rowD (vs, m)) rfl at_k ?_
    refine ⟨rfl, ?_⟩
    refine wp_addT (by simp; omega) ?_
    refine wp_idx (xs := more.map rowD) (d := rowD (vs, m)) rfl at_k ?_
    refine ⟨rfl, ?_⟩
    refine wp_addL (by simp [bits]) ?_
    refine ⟨_, rfl, ?_⟩
    simp only [ES]
    refine ws_asg ?_
    simp only [W, WR, EG, vr_some, WD]
    refine ⟨rfl, ?_⟩
    rw [show decide ((1 : Int) < ((more.map rowD).length : Nat)) = decide (1 < (more.map rowD).length) from by rw [Bool.eq_iff_iff]; simp only [decide_eq_true_eq]; omega]
    refine wp_if1 ?_
    refine wp_addL (by split <;> simp [bits]) ?_
    refine ⟨_, rfl, ?_⟩
    simp only [ES]
    exact q _ _

def turnA : List S := [.asg (.name 2) (.call 13 [.var 0, .bin .add (.int 1) (.call 9 [.var 0, .int 3])]),
    .asg (.name 3) (.att (.make true "Table" [.labT (.var 2), .call 15 [.var 0, .blt .len [.var 2], .int 6, .int 3]]) "rows"),
    .asg (.name 4) (.call 14 [.bin .add (.blt .list [.var 3]) (.lst [.tup [.bin .mul (.tup [.int 1]) (.blt .len [.var 2]), .int 3]])]),
    .asg (.name 5) (.call 9 [.var 0, .blt .len [.var 4]]),
    .asg (.tup [.name 9, .name 10]) (.idx (.var 4) (.var 5))]
def turnC : List S := [.asg (.name 8) (.bin .add (.lst [.call 5 [.var 2, .var 3], .call 5 [.labT (.var 2), .var 4]]) (.comp [11] (.name 11) (.seq (.var 7)) none (.call 5 [.var 2, .var 11]))),
    .ifs (.not (.call 12 [.var 8, .bin .add (.lst [.bl true, .bl true]) (.bin .mul (.lst [.bl false]) (.blt .len [.var 7]))])) [.ret (.bl false)] []]
theorem things_len {M : List D} {k : Nat} {r : Row} : (things M k r).length ≤ 17 := by
  unfold things
  simp only [List.length_append, List.length_map, List.length_cons, List.length_nil]
  have : (bits r.1 r.2).length = 13 := rfl
  split <;> simp <;> omega
theorem turnC_wp {u : D} {e1 : Option D} {ls : List D} {tbl more : List Row} {k : Nat} {r : Row} {x5 x6 x8 x9 x10 x11 : Option D} {T : Store} {R : Fl → Store → Prop} (h0 : 0 < ls.length) (h1 : ls.length < 900) (hl : more.length < 900) (hm : ∀ r ∈ more, Fine ls.length r) (asc : more.Pairwise fun a b => lexI a.1 b.1 = true)
    (hl2 : tbl.length < 900) (hm2 : ∀ r ∈ tbl, Fine ls.length r) (asc2 : tbl.Pairwise fun a b => lexI a.1 b.1 = true) (hr : r ∈ more)
    (q : ∀ z8 z11, R (.nx [some u, e1, some (.lst ls), some (.tup (tbl.map rowD)), some (.tup (more.map rowD)), x5, x6, some (.lst (things (more.map rowD) k r)), z8, x9, x10, z11]) T) :
    wp (execs prog (callN prog 7) turnC [some u, e1, some (.lst ls), some (.tup (tbl.map rowD)), some (.tup (more.map rowD)), x5, x6, some (.lst (things (more.map rowD) k r)), x8, x9, x10, x11]) T R := by
  have hrow : ∀ {l : D} {rs : List Row}, (l = .lst ls ∨ l = .lab ls) → rs.length < 900 → (∀ r ∈ rs, Fine ls.length r) → (rs.Pairwise fun a b => lexI a.1 b.1 = true) → wp (callN prog 7 5 [l, .tup (rs.map rowD)]) T fun r T' => r = .bl true ∧ T' = T := by
    intro l rs e h2 h3 h4
    refine wp_mono (isrows_rows (P := prog) (n := 4) (f := 5) (fr := 4) (fi := 0) (cp := 2) rfl rfl rfl rfl rfl rfl rfl rfl rfl rfl rfl rfl rfl e (by omega) (by omega) h3) ?_
    rintro v T' ⟨rfl, rfl⟩
    exact ⟨by rw [(ascB_iff rs).mpr h4], rfl⟩
  unfold turnC
  refine ws_asg ?_
  simp only [W, WR, EG, vr_some, WD]
  refine wp_mono (hrow (.inl rfl) hl2 hm2 asc2) ?_
  rintro v T' ⟨rfl, rfl⟩
  refine wp_mono (hrow (.inr rfl) hl hm asc) ?_
  rintro v T' ⟨rfl, rfl⟩
  refine ⟨rfl, ?_⟩
  have hlen := things_len (M := more.map rowD) (k := k) (r := r)
  refine we_map (T1 := T') (g := []) id (fun _ => .bl false) (things (more.map rowD) k r) ?_ rfl (Nat.le_trans hlen (by decide)) ?_ ?_
  · simp only [W, WR, EG, vr_some, WD]
    simp
  · intro x hx
    refine ⟨_, rfl, ?_⟩
    simp only [wipeE, List.foldl, ES, W, WR, EG, vr_some, WD, id]
    exact things_no (P := prog) (n := 4) (f := 5) (fr := 4) (fi := 0) (cp := 2) rfl rfl rfl rfl rfl rfl rfl rfl rfl rfl rfl rfl rfl h0 h1 hl hm asc hr x hx
  refine wp_addL (by simp; omega) ?_
  refine ⟨_, rfl, ?_⟩
  simp only [ES]
  refine ws_if ?_
  simp only [W, WR, EG, vr_some, WD]
  refine ⟨rfl, rfl, ?_⟩
  refine wp_mulL (by omega) ?_
  refine wp_addL (by simp; omega) ?_
  have e1 : ([D.bl true, D.bl true] ++ (things (more.map rowD) k r).map fun _ => D.bl false) = (true :: true :: List.replicate (things (more.map rowD) k r).length false).map D.bl := by
    simp [List.map_const']
  have e2 : ([D.bl true, D.bl true] ++ List.replicate (things (more.map rowD) k r).length (D.bl false)) = (true :: true :: List.replicate (things (more.map rowD) k r).length false).map D.bl := by
    simp
  rw [e1, e2]
  refine wp_mono (same_bls (P := prog) (n := 5) (f := 12) rfl rfl rfl rfl (by simp; omega)) ?_
  rintro v T2 ⟨rfl, rfl⟩
  simp only [WD]
  refine ⟨_, rfl, fun z => Bool.noConfusion z, fun _ => ws_nil (q _ _)⟩
theorem turn_wp {u k : Nat} {T : Store} {x1 x2 x3 x4 x5 x6 x7 x8 x9 x10 x11 : Option D} (hu : Urn u (k + 60) T) : wp (execs prog (callN prog 7) (turnA ++ (bentS ++ turnC)) [some (.ref u), x1, x2, x3, x4, x5, x6, x7, x8, x9, x10, x11]) T fun fl T' => (∃ y2 y3 y4 y5 y6 y7 y8 y9 y10 y11, fl = .nx [some (.ref u), x1, y2, y3, y4, y5, y6, y7, y8, y9, y10, y11]) ∧ Urn u k T' := by
  unfold turnA
  simp only [List.cons_append, List.nil_append]
  refine ws_asg ?_
  simp only [W, WR, EG, vr_some]
  refine take_wp (P := prog) (n := 6) (f := 9) (k := k + 59) rfl rfl rfl rfl hu (by omega) (by decide) fun d T1 d0 d1 k1 l1 u1 => ?_
  simp only [WD]
  obtain ⟨many, hmany, m0, m1⟩ : ∃ m : Nat, (1 + d : Int) = m ∧ 0 < m ∧ m ≤ 3 := ⟨(1 + d).toNat, by omega, by omega, by omega⟩
  rw [hmany]
  refine tags_wp (P := prog) (n := 4) (f := 13) (ft := 9) (fo := 11) (k := k + 45) rfl rfl rfl rfl rfl rfl rfl rfl rfl rfl rfl rfl u1 (by omega) fun ss T2 hs _ k2 u2 => ?_
  refine ⟨_, rfl, ?_⟩
  simp only [ES]
  have hlen : (ss.map D.str).length = many := by rw [List.length_map, hs]
  refine ws_asg ?_
  simp only [W, WR, EG, vr_some, WD]
  rw [hlen]
  refine pool_wp (P := prog) (n := 5) (f := 15) (ft := 9) (k := k + 10) (wide := many) (most := 6) (high := 3) rfl rfl rfl rfl rfl rfl rfl rfl (by omega) (by omega) (by omega) (by omega) (u2.less (by omega)) fun rs T3 hrl hd k3 u3 => ?_
  refine table_wp (P := prog) (n := 2) (f := 6) (it := 2) (ia := 3) (rows := rs) rfl rfl rfl rfl rfl rfl rfl (fun _ _ _ => rfl) rfl rfl rfl rfl rfl rfl rfl rfl rfl (.inl rfl) (by omega) (by omega) ?_ ?_ ?_
  · intro m
    have : ∀ l : List Str, closL m (l.map D.str) = true := by
      intro l
      induction l with
      | nil => rfl
      | cons a l ih => simp only [List.map_cons, closL, closD, ih, Bool.and_self]
    exact this ss
  · intro r hr
    obtain ⟨g1, g2, g3, g4⟩ := hd r hr
    exact ⟨by rw [g1, hlen], fun v hv => (g2 v hv).1, g3⟩
  refine wp_prp (P := prog) (g := 7) rfl rfl rfl rfl ?_
  refine wp_fn (fn := f_Table_rows) rfl rfl ?_
  show wp (execs prog (callN prog 6) [.ret (.att (.var 0) "own_rows")] [some (tblD (ss.map D.str) (addedF rs))]) T3 _
  refine ws_ret ?_
  simp only [W, WR, EG, vr_some]
  refine wp_fld (P := prog) (d := .tup ((addedF rs).map rowD)) rfl rfl rfl rfl ?_
  rw [gc_len rfl]
  refine ⟨_, rfl, ?_⟩
  simp only [ES]
  -- the rows of the table
  have al : (addedF rs).length ≤ 8 := Nat.le_trans addedF_len hrl
  have afine : ∀ r ∈ addedF rs, Fine many r ∧ r.2 ≤ 80 := by
    intro r hr
    obtain ⟨h1, h2⟩ := addedF_mem hr
    obtain ⟨q, hq, e⟩ := List.mem_map.mp h1
    obtain ⟨g1, g2, g3, g4⟩ := hd q hq
    refine ⟨⟨by rw [← e]; exact g1, fun v hv => (g2 v (by rw [e]; exact hv)).1, h2⟩, ?_⟩
    rw [addedF_amt hr]
    refine Int.le_trans (sumK_le (B := 10) (by omega) fun r hr => ?_) (by omega)
    have := (hd r hr).2.2.2
    omega
  refine ws_asg ?_
  simp only [W, WR, EG, vr_some, WD]
  rw [hlen]
  refine ⟨rfl, ?_⟩
  refine wp_mulT m0 (by omega) ?_
  refine ⟨rfl, rfl, ?_⟩
  refine wp_addL (by simp; omega) ?_
  have erows : (addedF rs).map rowD ++ [D.tup [.tup (List.replicate many (.int 1)), .int 3]] = (addedF rs ++ [(List.replicate many (1 : Int), (3 : Int))]).map rowD := by
    simp [rowD, keyD]
  rw [erows]
  have brow : ∀ r ∈ addedF rs ++ [(List.replicate many (1 : Int), (3 : Int))], Fine many r ∧ r.2 ≤ 80 := by
    intro r hr
    rcases List.mem_append.mp hr with hr | hr
    · exact afine r hr
    · simp only [List.mem_singleton] at hr
      subst hr
      exact ⟨⟨by simp, fun v hv => by rw [List.eq_of_mem_replicate hv]; omega, show (0 : Int) < 3 by decide⟩, show (3 : Int) ≤ 80 by decide⟩
  have bl : (addedF rs ++ [(List.replicate many (1 : Int), (3 : Int))]).length ≤ 9 := by
    simp only [List.length_append, List.length_cons, List.length_nil]
    omega
  have bpos : 0 < sumK (List.replicate many (1 : Int)) (addedF rs ++ [(List.replicate many (1 : Int), (3 : Int))]) := by
    have h := sumK_nonneg (k := List.replicate many (1 : Int)) (rows := addedF rs) fun r hr => by have := (afine r hr).1.2.2; omega
    simp only [sumK, List.map_append, List.map_cons, List.map_nil, List.sum_append, List.sum_cons, List.sum_nil, if_true] at h ⊢
    omega
  generalize addedF rs ++ [(List.replicate many (1 : Int), (3 : Int))] = rows2 at *
  refine sum_wp (P := prog) (n := 6) (f := 14) (w := many) (rows := rows2) rfl rfl rfl rfl rfl (fun _ => rfl) (fun r hr => (brow r hr).1.1) (by omega) ?_
  refine ⟨_, rfl, ?_⟩
  simp only [ES]
  have masc := addedF_asc rows2
  have ml : (addedF rows2).length ≤ 9 := Nat.le_trans addedF_len bl
  have mfine : ∀ r ∈ addedF rows2, Fine many r ∧ r.2 ≤ 720 := by
    intro r hr
    obtain ⟨h1, h2⟩ := addedF_mem hr
    obtain ⟨q, hq, e⟩ := List.mem_map.mp h1
    obtain ⟨⟨g1, g2, g3⟩, g4⟩ := brow q hq
    refine ⟨⟨by rw [← e]; exact g1, fun v hv => g2 v (by rw [e]; exact hv), h2⟩, ?_⟩
    rw [addedF_amt hr]
    refine Int.le_trans (sumK_le (B := 80) (by omega) fun r hr => (brow r hr).2) (by omega)
  have mpos : 0 < (addedF rows2).length := List.length_pos_of_mem (mem_addedF bpos)
  have aasc := addedF_asc rs
  generalize addedF rows2 = more at *
  generalize addedF rs = tbl at *
  refine ws_asg ?_
  simp only [W, WR, EG, vr_some, WD]
  rw [List.length_map]
  refine take_wp (P := prog) (n := 6) (f := 9) (k := k + 9) rfl rfl rfl rfl u3 (by omega) (by have := Nat.log2_lt (n := (more.length : Int).natAbs) (k := 60) (by omega) |>.mpr (by omega); omega) fun d T4 d0 d1 k4 l4 u4 => ?_
  obtain ⟨j, rfl, hj⟩ : ∃ j : Nat, d = j ∧ j < more.length := ⟨d.toNat, by omega, by omega⟩
  refine ⟨_, rfl, ?_⟩
  simp only [ES]
  refine ws_asg ?_
  simp only [W, WR, EG, vr_some]
  have at_j : L2.atI (more.map rowD) (j : Int) = some (rowD more[j]) := by
    rw [atI_at (by rw [List.length_map]; exact hj), List.getElem_map]
  refine wp_idx (xs := more.map rowD) (d := rowD more[j]) rfl at_j ?_
  refine ⟨_, rfl, ?_⟩
  have mj := mfine more[j] (List.getElem_mem hj)
  refine bent_wp (by omega) hj (by rw [mj.1.1]; omega) mj.1.2.2 (by have := mj.2; omega) fun z6 z11 => ?_
  have hl' : (ss.map D.str).length = many := hlen
  refine turnC_wp (by omega) (by omega) (by omega) (fun r hr => by rw [hl']; exact (mfine r hr).1) masc (by omega) (fun r hr => by rw [hl']; exact (afine r hr).1) aasc (List.getElem_mem hj) fun z8 z11' => ?_
  exact ⟨⟨_, _, _, _, _, _, _, _, _, _, rfl⟩, u4.less (by omega)⟩
theorem right (u : Nat) (T : Store) (hu : Urn u (2 ^ 39) T) : wp (callN prog 8 17 [.ref u]) T fun r _ => r = .bl true := by
  refine wp_fn (fn := f__law_right) rfl rfl ?_
  show wp (execs prog (callN prog 7) (.ifs (.not (.call 16 [])) [.ret (.bl false)] [] :: .loop (.name 1) (.rng1 (.int 10)) (turnA ++ (bentS ++ turnC)) :: [.ret (.bl true)]) [some (.ref u), none, none, none, none, none, none, none, none, none, none, none]) T _
  refine ws_if ?_
  simp only [W]
  refine wp_mono (wp_fn0 by_hand) ?_
  rintro v T1 ⟨rfl, rfl⟩
  simp only [WD]
  refine ⟨_, rfl, fun z => Bool.noConfusion z, fun _ => ?_⟩
  refine ws_loop (wp_mono (Q := fun w T' => w = ((upI 0 10).map D.int, []) ∧ T' = T1) ?_ ?_)
  · simp only [W]
    exact wrng (m := 10) (by omega) ⟨rfl, rfl⟩
  rintro w T' ⟨rfl, rfl⟩
  refine ⟨fun rest env2 T2 => (∃ x1 x2 x3 x4 x5 x6 x7 x8 x9 x10 x11, env2 = [some (.ref u), x1, x2, x3, x4, x5, x6, x7, x8, x9, x10, x11]) ∧ Urn u (60 * rest.length) T2, ⟨⟨_, _, _, _, _, _, _, _, _, _, _, rfl⟩, hu.less (by decide)⟩, ?_, ?_⟩
  · rintro x xs env2 T2 ⟨⟨x1, x2, x3, x4, x5, x6, x7, x8, x9, x10, x11, rfl⟩, hu2⟩
    refine ⟨rfl, [some (.ref u), some x, x2, x3, x4, x5, x6, x7, x8, x9, x10, x11], rfl, ?_⟩
    refine wp_mono (turn_wp (k := 60 * xs.length) (hu2.less (by simp only [List.length_cons]; omega))) ?_
    rintro fl T3 ⟨⟨y2, y3, y4, y5, y6, y7, y8, y9, y10, y11, rfl⟩, u3⟩
    exact ⟨⟨_, _, _, _, _, _, _, _, _, _, _, rfl⟩, u3⟩
  · rintro env2 T2 ⟨_, _⟩
    refine ⟨rfl, ws_ret ?_⟩
    simp only [W]
theorem plain (ns : List Int) (hns : ns.length ≤ 63) : ∃ T', callN prog 9 i_law [.ext false (ns.map D.int)] [] = .ok (.bl true) T' :=
  law_frame (P := prog) (n := 7) (f := 18) (fc := 10) (fr := 17) (fb := 8) (b := 611003) rfl rfl rfl rfl rfl rfl rfl rfl rfl rfl rfl rfl rfl (by omega) (by omega) hns right
end K03

set_option Elab.async false
set_option linter.all false
set_option maxRecDepth 1000000
set_option maxHeartbeats 0
namespace K03
open PySem PySem.Spec PyProof.Rows Pz L2
abbrev R : PySem.W.OpenRow := PySem.W.OpenLaw.row PySem.Challenge.rw_peaksums_k03_things_that_are_rows_and_na
abbrev hk : PySem.W.Hook := hookP 7 prog sts
def ob (s : PySem.W.SharedT) : AlP := obsPG 7 prog sts (HandSHeadRun.getT s)
theorem ob_eq (s : PySem.W.SharedT) : ob s = hk.obs s.abs := obsPG_eq (HandSHeadRun.getT_eq s)
def loose : List Str := ["_wall", "__name__", "LETTERS", "LONGEST", "is_number", "is_name", "tupled", "set_of", "number_in", "BadText", "BadRow", "Unlike", "OtherLabels", "NOTHING", "PAIR", "added", "is_row", "is_rows", "names_in", "row_in", "other_label", "Table", "_law_box", "_law_take", "_law_cells", "_law_of", "_law_same", "_law_tags", "_law_sum", "_law_pool", "_law_by_hand_right", "_law_right"]
theorem run (w : World) : HandSHeadRun.RunEq R (PySem.W.view R.prog [35]) hk ob 4000 loose w := by
  intro os
  kernel_rfl
theorem facts {P : Program} {w : World} {K : PySem.W.Frag} {h : Heap} {mg : Str → Option Value} {f : Addr} (X : K.In h) (G : h.Ns mainGlobals mg) (hfa : mg ("law" : Str) = some (.ref f)) (c : obsP prog sts K = valP prog sts) :
    ∃ fd : FuncData, (∀ (s : Shared) (v : Value), BindsTo s fd ⟨[v], []⟩ [("_law_script", v)]) ∧ ∀ base : Heap, K.In base → base.Ns mainGlobals mg → FnOk P w K mg base CX0 18 f fd ["_law_script"] (spF K 1 (callN prog 9 i_law)) := by
  obtain ⟨g, hf, hd⟩ := all_fnh (sts := sts) X G rfl wf_all chk_all bnd_all c
  obtain ⟨hm, fd, F⟩ := hd i_law f_law (top 35) rfl rfl
  have ea : f = adrOf K f_law := by
    have hm : mg ("law" : Str) = some (.ref (adrOf K f_law)) := hm
    rw [hfa] at hm
    exact Value.ref.inj (Option.some.inj hm)
  subst ea
  refine ⟨fd, fun s v => FunD.bindsA (ps := ["_law_script"]) F (fun _ _ _ _ _ _ us hl => match us, hl with | [_], _ => rfl) s [v] rfl, fun base _ _ => ?_⟩
  have hc := chk_law
  simp only [chkFn, Bool.and_eq_true] at hc
  exact fok_fn g hf 8 (f := i_law) (fn := f_law) rfl F (fnScB_ok hc.1) hc.2
end K03
open PySem PySem.W PySem.Calls PyProof.Rows
theorem PySem.Challenge.cw_peaksums_k03_things_that_are_rows_and_na_holds : PySem.Challenge.rw_peaksums_k03_things_that_are_rows_and_na.Holds := by
  w_on; o_law
  refine HandSHeadRun.head_any (r := OpenLaw.row PySem.Challenge.rw_peaksums_k03_things_that_are_rows_and_na) (q := view (OpenLaw.row PySem.Challenge.rw_peaksums_k03_things_that_are_rows_and_na).prog [35]) (H := K03.hk) (ob := K03.ob) (M := 4000) (loose := K03.loose) (d := HandSHeadRun.topDef (OpenLaw.row PySem.Challenge.rw_peaksums_k03_things_that_are_rows_and_na).prog 35) (kwd := []) K03.ob_eq
    (by kernel_rfl) (fun s => by kernel_rfl) K03.run (by kernel_rfl) (by kernel_rfl) (by kernel_rfl) (by rfl) (by first | assumption | decide +kernel) (by decide +kernel) ⟨rfl, rfl, rfl, rfl, rfl, by decide +kernel⟩ ?hw ?hc
  case hw => w_witness2
  case hc =>
    refine L2.walk_ofE (l := PySem.Challenge.rw_peaksums_k03_things_that_are_rows_and_na) (n := 63) (k := 18) (x := "_law_script") (CX := L2.CX0) rfl (by decide) (by kernel_rfl) ⟨rfl, by decide, by decide⟩ ?F (fun _ _ _ _ z => z)
    intro w mg fa h Y G hmg0
    obtain ⟨K, KX, c⟩ := Y
    have hmg : mg ("law" : PySem.Str) = some (.ref fa) := by
      have e : (HandSHeadRun.topDef (OpenLaw.row PySem.Challenge.rw_peaksums_k03_things_that_are_rows_and_na).prog 35).name = ("law" : PySem.Str) := by kernel_rfl
      rw [← e]
      exact hmg0
    obtain ⟨fd, hb, hF⟩ := K03.facts (P := (PySem.Challenge.rw_peaksums_k03_things_that_are_rows_and_na).prog) (w := w) KX G hmg c
    exact ⟨K, fd, _, KX, hb, fun H a ns hl hO hS => Pz.sp_script hO hS (K03.plain ns hl), hF⟩

