import PyProof.Rows.All
import Wide.All
import OpenK.AllK
import Wide.FinOn
import KE.DataEq
import KE.SortData
import HandS.ForMost
import HandS.Flow
import HandS.Wide
import HandS.IsInst
import HandS.TupAny
import HandS.TupMul
import HandS.Star
import HandS.Zip
import HandS.Style
import HandS.Lambda
import HandS.ExcInit
import HandS.ExcIs
import HandS.ExcField
import HandS.HeadHook1
import HandS.Conv
import PyProof.Rows.SumAny
import HandS.List
import HandS.SortInts
import HandS.Defaults
import HandS.ExcSuper
import KE.KExcSuper
import KE.KSuper
import HandS.Iter
import KE.GoesMore
import HandS.SetFor
import HandS.TupSets
import HandS.Strs
import KE.DataFind
import KE.KExcIs
import HandS.ExcOwn
import HandS.TryOnly
import HandS.EndTab
import HandS.Words
import HandS.Ends
import HandS.HeadEnd
import HandS.HeadHook2
import HandS.Head0
import HandS.Head1
import HandS.Head2
import HandS.More
import HandS.WordsExc
import KE.KStateDown
import Lean
import PySem.Challenge.RW_everyrungdown_k40_whole_orders_falls_and
set_option Elab.async false
set_option linter.all false
set_option maxRecDepth 100000
set_option Elab.async false
set_option linter.all false
set_option maxRecDepth 100000
/-! The pure evaluator: data trees, slots that own a list, shared cells. -/
namespace Ev
open PySem

abbrev D := PyData
/-- a value at rest: plain data, or a list that this slot alone holds -/
inductive RV where
  | v (d : D)
  | o (ds : List D)
def RV.d : RV → D
  | .v d => d
  | .o ds => .list ds
abbrev Sto := List (List D)
abbrev Rho := List (Option RV)

inductive Op2 | add | sub | mul | fdiv | mod | pow
  deriving DecidableEq
inductive Cm | eq | ne | lt | le | gt | ge | isin | notin | is | isnot
  deriving DecidableEq
inductive Ty | int | bool | str | tup | lst
  deriving DecidableEq
inductive Bl | len | abs | max2 | min2 | int | str | repr | tuple | list | sorted | sum | all | any | max1 | min1
  deriving DecidableEq
inductive Mt | index | count | join | split
  deriving DecidableEq

mutual
inductive Tg
  | nm (i : Nat)
  | tp (ts : Tgs)
inductive Tgs
  | nil
  | cons (t : Tg) (r : Tgs)
end

mutual
inductive CE
  | var (i : Nat)
  | peek (i : Nat)
  | con (d : D)
  | gl (x : Str) (d : D)
  | tup (es : CEs)
  | lst (es : CEs)
  | bin (o : Op2) (a b : CE)
  | neg (a : CE)
  | cmp (o : Cm) (a b : CE)
  | chain (o p : Cm) (a b c : CE)
  | and (a b : CE)
  | or (a b : CE)
  | one (a : CE)
  | not (a : CE)
  | ite (c a b : CE)
  | sub (a i : CE)
  | sl (a : CE) (lo hi : CEo)
  | rev (a : CE)
  | call (f : Nat) (es : CEs)
  | callk (f : Nat) (es : CEs) (perm : List Nat)
  | blt (b : Bl) (es : CEs)
  | isi (t : Ty) (a : CE)
  | meth (m : Mt) (a : CE) (es : CEs)
  | lrng (es : CEs)
  | trng (es : CEs)
  | comp (own : List Nat) (tg : Tg) (it : CI) (ifs : CEs) (elt : CE)
  | comp2 (own : List Nat) (tg : Tg) (it : CI) (ifs : CEs) (tg1 : Tg) (it1 : CI) (ifs1 : CEs) (elt : CE)
  | cnt (a x : CE)
  | idx (a x : CE)
  | sset (a : CE)
  | dlit (ks : List Str) (es : CEs)
  | dlitI (ks : List Nat) (es : CEs)
  | dget (a k z : CE)
  | lam (n : Nat)
  | cc (g : Nat) (a : CE) (es : CEs) (ls : LLs)
  | excIs (x : Str) (a : CE)
  | excVal (a : CE)
inductive CEs
  | nil
  | cons (star : Bool) (e : CE) (r : CEs)
inductive CEo
  | none
  | some (e : CE)
inductive CI
  | seq (e : CE)
  | rng (es : CEs)
  | enum (e : CE)
  | zip (a b : CE)
/-- the lambdas of a def: number, what is called, with what -/
inductive LLs
  | nil
  | cons (n f : Nat) (es : CEs) (r : LLs)
end

/-! ### closures, outcomes, exceptions as data -/
def cloD (n : Nat) : D := .dict [(.none, .list [.int n])]
def cloOf : D → Option Nat
  | .dict [(.none, .list [.int n])] => some n.toNat
  | _ => none
/-- what a closure gives: a value; an exception of a class with a value -/
def ovalD (d : D) : D := .dict [(.none, .list [.none, d])]
def oexcD (c : Str) (d : D) : D := .dict [(.none, .list [.str c, d])]
def excD (c : Str) (d : D) : D := .dict [(.none, .tuple [.str c, d])]
inductive Oc where
  | val (d : D)
  | exc (c : Str) (d : D)
def Oc.d : Oc → D
  | .val d => ovalD d
  | .exc c d => oexcD c d
def ocOf : D → Option Oc
  | .dict [(.none, .list [.none, d])] => some (.val d)
  | .dict [(.none, .list [.str c, d])] => some (.exc c d)
  | _ => none
/-- what is caught, what came back -/
def Oc.ct : Oc → D
  | .val _ => .none
  | .exc c d => excD c d
def Oc.bk : Oc → D
  | .val d => d
  | .exc _ _ => .none
def excIs1 (x : Str) : D → Option Bool
  | .none => some false
  | .dict [(.none, .tuple [.str c, _])] => some (c == x)
  | _ => none
def excVal1 : D → Option D
  | .dict [(.none, .tuple [.str _, d])] => some d
  | _ => none
mutual
/-- no cell, no closure, no exception within; dicts of plain values -/
def pur : D → Bool
  | .tuple xs => purs xs
  | .list xs => purs xs
  | .dict kvs => kvs.all fun p => purK p.1 && purV p.2
  | _ => true
def purs : List D → Bool
  | [] => true
  | x :: r => pur x && purs r
def purK : D → Bool
  | .int _ => true
  | .str _ => true
  | _ => false
def purV : D → Bool
  | .none => true
  | .bool _ => true
  | .int _ => true
  | .str _ => true
  | _ => false
end
/-- numbers of defs: from here on what a def raises, what a closure gives -/
@[irreducible] def B0 : Nat := 1000000

/-! ### the steps on data -/
def big (i : Int) : Bool := decide (i.natAbs < 2 ^ 4000)
def maxLen : Nat := 100000

def op2 : Op2 → D → D → Option RV
  | .add, .int i, .int j => some (.v (.int (i + j)))
  | .add, .tuple a, .tuple b => if a.length + b.length ≤ maxLen then some (.v (.tuple (a ++ b))) else none
  | .add, .list a, .list b => if a.length + b.length ≤ maxLen then some (.o (a ++ b)) else none
  | .add, .str a, .str b => if a.length + b.length ≤ maxLen then some (.v (.str (a ++ b))) else none
  | .sub, .int i, .int j => some (.v (.int (i - j)))
  | .mul, .int i, .int j => if big i && big j then some (.v (.int (i * j))) else none
  | .mul, .tuple a, .int j => if decide (1 ≤ j) && decide (j ≤ 1000) && decide (a.length ≤ 100) && !a.isEmpty then some (.v (.tuple (List.replicate j.toNat a).flatten)) else none
  | .fdiv, .int i, .int j => if decide (0 < j) && big j then some (.v (.int (i / j))) else none
  | .mod, .int i, .int j => if decide (0 < j) then some (.v (.int (i % j))) else none
  | .pow, .int i, .int j => if decide (0 ≤ j) && decide (j ≤ 1000) && decide (i.natAbs < 2 ^ 1000) then some (.v (.int (i ^ j.toNat))) else none
  | _, _, _ => none

def isNone : D → Bool
  | .none => true
  | _ => false

/-- no dict within, and not too deep -/
def shal (n : Nat) (d : D) : Bool := d.plain && decide (d.depth ≤ n)
def shalAll (n : Nat) (xs : List D) : Bool := PyData.plainAll xs && decide (PyData.depthAll xs ≤ n)
def flat (d : D) : Bool := shal 20 d

/-- whether data are alike enough for <, and which is less -/
def lt2 (a b : D) : Option Bool :=
  match a, b with
  | .int i, .int j => some (decide (i < j))
  | .str x, .str y => some (decide (x.cps.toList < y.cps.toList))
  | .tuple x, .tuple y => if PySem.W.alike (.tuple x) (.tuple y) && flat (.tuple x) && flat (.tuple y) then some (PySem.W.dataLt (.tuple x) (.tuple y)) else none
  | _, _ => none

def cmp2 : Cm → D → D → Option D
  | .eq, a, b => if flat a && flat b then some (.bool (PyData.eqv a b)) else none
  | .ne, a, b => if flat a && flat b then some (.bool (!PyData.eqv a b)) else none
  | .lt, .int i, .int j => some (.bool (decide (i < j)))
  | .le, .int i, .int j => some (.bool (decide (i ≤ j)))
  | .gt, .int i, .int j => some (.bool (decide (j < i)))
  | .ge, .int i, .int j => some (.bool (decide (j ≤ i)))
  | .lt, .tuple x, .tuple y => (lt2 (.tuple x) (.tuple y)).map .bool
  | .isin, a, .tuple xs => if flat a && flat (.tuple xs) then some (.bool (xs.any fun z => PyData.eqv z a)) else none
  | .isin, a, .list xs => if flat a && flat (.list xs) then some (.bool (xs.any fun z => PyData.eqv z a)) else none
  | .notin, a, .tuple xs => if flat a && flat (.tuple xs) then some (.bool (!xs.any fun z => PyData.eqv z a)) else none
  | .notin, a, .list xs => if flat a && flat (.list xs) then some (.bool (!xs.any fun z => PyData.eqv z a)) else none
  | .is, a, .none => some (.bool (isNone a))
  | .isnot, a, .none => some (.bool (!isNone a))
  | .is, .bool a, .bool b => some (.bool (decide (a = b)))
  | .isnot, .bool a, .bool b => some (.bool (!decide (a = b)))
  | _, _, _ => none

def truth : D → Option Bool
  | .none => some false
  | .bool b => some b
  | .int i => some (i != 0)
  | .tuple xs => some (!xs.isEmpty)
  | .list xs => some (!xs.isEmpty)
  | _ => none

/-- the keys of dicts: ints and texts -/
def kD : L2.Key → D
  | .inl i => .int i
  | .inr x => .str x
def kOf : D → Option L2.Key
  | .int i => some (.inl i)
  | .str x => some (.inr x)
  | _ => none
/-- what stands at a key in a dict -/
def dAt : List (D × D) → L2.Key → Option D
  | [], _ => none
  | (k, d) :: r, x => match kOf k with
    | some y => if y = x then some d else dAt r x
    | none => none
def sub2 : D → D → Option D
  | .tuple xs, .int i => L2.atI xs i
  | .list xs, .int i => L2.atI xs i
  | .dict kvs, .str x => dAt kvs (.inr x)
  | .dict kvs, .int i => dAt kvs (.inl i)
  | _, _ => none
def cut {α : Type} (xs : List α) (lo hi : Option Int) : List α :=
  (xs.drop (HT.sIx xs.length 0 lo)).take (HT.sIx xs.length xs.length hi - HT.sIx xs.length 0 lo)
def asInt? : Option D → Option (Option Int)
  | none => some none
  | some (.int i) => if decide (-(2 ^ 60) < i) && decide (i < 2 ^ 60) then some (some i) else none
  | _ => none
def sl3 (a : D) (lo hi : Option D) : Option RV :=
  match a, asInt? lo, asInt? hi with
  | .tuple xs, some l, some h => some (.v (.tuple (cut xs l h)))
  | .list xs, some l, some h => some (.o (cut xs l h))
  | _, _, _ => none
def rev1 : D → Option RV
  | .tuple xs => some (.v (.tuple xs.reverse))
  | .list xs => some (.o xs.reverse)
  | _ => none

def ints? : List D → Option (List Int)
  | [] => some []
  | .int i :: r => (ints? r).map (i :: ·)
  | _ => none
def bools? : List D → Option (List Bool)
  | [] => some []
  | .bool b :: r => (bools? r).map (b :: ·)
  | _ => none
def strs? : List D → Option (List Str)
  | [] => some []
  | .str x :: r => (strs? r).map (x :: ·)
  | _ => none

def insBy (le : D → D → Bool) (x : D) : List D → List D
  | [] => [x]
  | y :: r => if le x y then x :: y :: r else y :: insBy le x r
def sortBy (le : D → D → Bool) : List D → List D
  | [] => []
  | x :: r => insBy le x (sortBy le r)
def dLe (a b : D) : Bool := match a, b with
  | .int i, .int j => decide (i ≤ j)
  | a, b => !PySem.W.dataLt b a
def allAlike (xs : List D) : Bool := xs.all fun x => xs.all fun y => PySem.W.alike x y
def sortable (xs : List D) : Bool := (xs.all fun d => match d with | .tuple (_ :: _) => true | _ => false) || (xs.all fun d => match d with | .int _ => true | .str _ => true | _ => false)

def rangeL (lo : Int) (n : Nat) : List D := (List.range n).map fun i => .int (lo + (i : Nat))
def rangeStep (lo c : Int) (n : Nat) : List D := (List.range n).map fun i => .int (lo + (i : Nat) * c)
def small (i : Int) : Bool := decide (-(2 ^ 40) < i) && decide (i < 2 ^ 40)
/-- the items of range(..) -/
def rangeOf : List D → Option (List D)
  | [.int j] => if small j && decide (j ≤ maxLen) then some (rangeL 0 j.toNat) else none
  | [.int i, .int j] => if small i && small j && decide (j - i ≤ maxLen) then some (rangeL i (j - i).toNat) else none
  | [.int i, .int j, .int c] =>
    if decide (c ≠ 0) && decide (c.natAbs < 1073741824) && Builtin.Range.small i j c && decide ((Builtin.Range.rangeSize i j c).toNat ≤ maxLen) then
      some (rangeStep i c (Builtin.Range.rangeSize i j c).toNat)
    else none
  | _ => none

def scal : D → Bool
  | .none => true
  | .bool _ => true
  | .int _ => true
  | .str _ => true
  | _ => false
mutual
/-- no list within, no cell; dicts of plain values -/
def lfree : D → Bool
  | .none => true
  | .bool _ => true
  | .int _ => true
  | .str _ => true
  | .tuple xs => lfrees xs
  | .list _ => false
  | .dict kvs => kvs.all fun p => (kOf p.1).isSome && scal p.2
def lfrees : List D → Bool
  | [] => true
  | x :: r => lfree x && lfrees r
end
def rpOk (d : D) : Bool := flat d || (lfree d && decide (d.depth ≤ 20))
def blt : Bl → List D → Option RV
  | .len, [.tuple xs] => some (.v (.int xs.length))
  | .len, [.list xs] => some (.v (.int xs.length))
  | .len, [.str x] => if x.length ≤ maxLen then some (.v (.int x.length)) else none
  | .abs, [.int i] => some (.v (.int (if i < 0 then -i else i)))
  | .max2, [.int i, .int j] => some (.v (.int (if j > i then j else i)))
  | .min2, [.int i, .int j] => some (.v (.int (if j < i then j else i)))
  | .int, [.int i] => some (.v (.int i))
  | .int, [.bool b] => some (.v (.int (if b then 1 else 0)))
  | .str, [.int i] => if i.natAbs < 2 ^ 1900 then some (.v (.str (toString i))) else none
  | .repr, [d] => if rpOk d && d.showable && decide (d.shown.length ≤ maxLen) then some (.v (.str d.shown)) else none
  | .tuple, [.list xs] => some (.v (.tuple xs))
  | .tuple, [.tuple xs] => some (.v (.tuple xs))
  | .list, [.list xs] => some (.o xs)
  | .list, [.tuple xs] => some (.o xs)
  | .sorted, [.list xs] => if allAlike xs && sortable xs && shalAll 19 xs && decide (xs.length ≤ maxLen) then some (.o (sortBy dLe xs)) else none
  | .sorted, [.tuple xs] => if allAlike xs && sortable xs && shalAll 19 xs && decide (xs.length ≤ maxLen) then some (.o (sortBy dLe xs)) else none
  | .sum, [.list xs] => (ints? xs).map fun ns => .v (.int ns.sum)
  | .sum, [.tuple xs] => (ints? xs).map fun ns => .v (.int ns.sum)
  | .all, [.list xs] => (bools? xs).map fun bs => .v (.bool (bs.all id))
  | .any, [.list xs] => (bools? xs).map fun bs => .v (.bool (bs.any id))
  | _, _ => none

def isi : Ty → D → Option Bool
  | _, .dict ((.none, _) :: _) => none
  | .int, .int _ => some true
  | .int, .bool _ => some true
  | .bool, .bool _ => some true
  | .str, .str _ => some true
  | .tup, .tuple _ => some true
  | .lst, .list _ => some true
  | _, _ => some false

/-- how often, and where first -/
def cnt2 : D → D → Option D
  | .list xs, d => if shalAll 19 xs && flat d then some (.int (xs.countP fun y => PyData.eqv y d : Nat)) else none
  | .tuple xs, d => if shalAll 19 xs && flat d then some (.int (xs.countP fun y => PyData.eqv y d : Nat)) else none
  | _, _ => none
def idxI (k : Int) : List Int → Option Nat
  | [] => none
  | x :: r => if x = k then some 0 else (idxI k r).map (· + 1)
/-- where first: of ints in a list; of any data in a tuple -/
def idx2 : D → D → Option D
  | .tuple xs, d => if shalAll 19 xs && flat d then (xs.findIdx? fun y => PyData.eqv y d).map fun j => .int (j : Nat) else none
  | .list xs, .int k => match ints? xs with
    | some ns => (idxI k ns).map fun j => .int (j : Nat)
    | none => none
  | _, _ => none
/-- rising, each once -/
def uinsI (x : Int) : List Int → List Int
  | [] => [x]
  | y :: r => if x < y then x :: y :: r else if x = y then y :: r else y :: uinsI x r
def usort (xs : List Int) : List Int := xs.foldr uinsI []
/-- sorted(set(..)) -/
def sset1 : D → Option (List D)
  | .list xs => match ints? xs with
    | some ns => if ns.length < 60 then some ((usort ns).map .int) else none
    | none => none
  | .tuple xs => match ints? xs with
    | some ns => if ns.length < 60 then some ((usort ns).map .int) else none
    | none => none
  | _ => none
def dOf (ks : List L2.Key) (ds : List D) : D := .dict ((ks.zip ds).map fun p => (kD p.1, p.2))
/-- a dict of such keys -/
def isDk : D → Bool
  | .dict kvs => !kvs.isEmpty && kvs.all fun p => (kOf p.1).isSome
  | _ => false
/-- d.get(k, z) -/
def dget3 (d k z : D) : Option D := match d, kOf k with
  | .dict kvs, some x => if isDk (.dict kvs) then some ((dAt kvs x).getD z) else none
  | _, _ => none
/-- keys by slots: ints -/
def keysAt (ρ : Rho) : List Nat → Option (List L2.Key)
  | [] => some []
  | i :: r => match ρ[i]?, keysAt ρ r with
    | some (some (.v (.int a))), some ks => some (.inl a :: ks)
    | _, _ => none

def cellOf : D → Option Nat
  | .dict [(.none, .int n)] => some n.toNat
  | _ => none

/-- a cell is read where a list is asked for -/
def look (st : Sto) (d : D) : D :=
  match cellOf d with
  | some n => match st[n]? with | some ds => .list ds | none => d
  | none => d

/-! ### the evaluator -/
mutual
def bindTg : Tg → D → Rho → Option Rho
  | .nm i, d, ρ => some (ρ.set i (some (.v d)))
  | .tp ts, .tuple ds, ρ => bindTgs ts ds ρ
  | .tp _, _, _ => none
def bindTgs : Tgs → List D → Rho → Option Rho
  | .nil, [], ρ => some ρ
  | .cons t r, d :: ds, ρ => match bindTg t d ρ with
    | some ρ1 => bindTgs r ds ρ1
    | none => none
  | _, _, _ => none
end

mutual
def slotsOf : Tg → List Nat
  | .nm i => [i]
  | .tp ts => slotsOfs ts
def slotsOfs : Tgs → List Nat
  | .nil => []
  | .cons t r => slotsOf t ++ slotsOfs r
end
def noOwn : Option RV → Option RV
  | some (.o _) => none
  | y => y
/-- the lists that slots own are out of sight -/
def hideO (ρ : Rho) : Rho := ρ.map noOwn
def wipeE (ρ : Rho) : List Nat → Rho
  | [] => ρ
  | v :: vs => (wipeE ρ vs).set v none

def purO : Option RV → Option RV
  | some (.v d) => if pur d then some (.v d) else none
  | _ => none
/-- only plain data is in sight -/
def hideC (ρ : Rho) : Rho := ρ.map purO

/-- the items of a comprehension, one by one -/
def mapM (f : D → Sto → Option (List D × Sto)) : List D → Sto → Option (List D × Sto)
  | [], st => some ([], st)
  | x :: r, st => match f x st with
    | some (ys, st1) => match mapM f r st1 with
      | some (zs, st2) => some (ys ++ zs, st2)
      | none => none
    | none => none

abbrev FT := Nat → List D → Sto → Option (RV × Sto)

def permD (ds : List D) (perm : List Nat) : List D := perm.map fun i => ds.getD i .none

variable (F : FT)
mutual
def evE : CE → Rho → Sto → Option (RV × Sto)
  | .var i, ρ, st => match ρ[i]? with
    | some (some (.v d)) => some (.v d, st)
    | _ => none
  | .peek i, ρ, st => match ρ[i]? with
    | some (some (.o ds)) => some (.v (.list ds), st)
    | _ => none
  | .con d, _, st => some (.v d, st)
  | .gl _ d, _, st => some (.v d, st)
  | .tup es, ρ, st => match evEs es ρ st with
    | some (ds, st1) => if ds.length ≤ maxLen then some (.v (.tuple ds), st1) else none
    | none => none
  | .lst es, ρ, st => match evEs es ρ st with
    | some (ds, st1) => if ds.length ≤ maxLen then some (.o ds, st1) else none
    | none => none
  | .bin o a b, ρ, st => match evE a ρ st with
    | some (x, st1) => match evE b ρ st1 with
      | some (y, st2) => match op2 o x.d y.d with
        | some z => some (z, st2)
        | none => none
      | none => none
    | none => none
  | .neg a, ρ, st => match evE a ρ st with
    | some (.v (.int i), st1) => some (.v (.int (-i)), st1)
    | _ => none
  | .cmp o a b, ρ, st => match evE a ρ st with
    | some (x, st1) => match evE b ρ st1 with
      | some (y, st2) => match cmp2 o x.d y.d with
        | some z => some (.v z, st2)
        | none => none
      | none => none
    | none => none
  | .chain o p a b c, ρ, st => match evE a ρ st with
    | some (x, st1) => match evE b ρ st1 with
      | some (y, st2) => match cmp2 o x.d y.d with
        | some (.bool true) => match evE c ρ st2 with
          | some (z, st3) => match cmp2 p y.d z.d with
            | some r => some (.v r, st3)
            | none => none
          | none => none
        | some (.bool false) => some (.v (.bool false), st2)
        | _ => none
      | none => none
    | none => none
  | .and a b, ρ, st => match evE a ρ st with
    | some (x, st1) => match truth x.d with
      | some true => evE b ρ st1
      | some false => some (x, st1)
      | none => none
    | none => none
  | .or a b, ρ, st => match evE a ρ st with
    | some (x, st1) => match truth x.d with
      | some true => some (x, st1)
      | some false => evE b ρ st1
      | none => none
    | none => none
  | .one a, ρ, st => evE a ρ st
  | .not a, ρ, st => match evE a ρ st with
    | some (x, st1) => match truth x.d with
      | some b => some (.v (.bool (!b)), st1)
      | none => none
    | none => none
  | .ite c a b, ρ, st => match evE c ρ st with
    | some (x, st1) => match truth x.d with
      | some true => evE a ρ st1
      | some false => evE b ρ st1
      | none => none
    | none => none
  | .sub a i, ρ, st => match evE a ρ st with
    | some (x, st1) => match evE i ρ st1 with
      | some (y, st2) => match sub2 (look st2 x.d) y.d with
        | some z => some (.v z, st2)
        | none => none
      | none => none
    | none => none
  | .sl a lo hi, ρ, st => match evE a ρ st with
    | some (x, st1) => match evO lo ρ st1 with
      | some (l, st2) => match evO hi ρ st2 with
        | some (h, st3) => match sl3 x.d l h with
          | some z => some (z, st3)
          | none => none
        | none => none
      | none => none
    | none => none
  | .rev a, ρ, st => match evE a ρ st with
    | some (x, st1) => match rev1 x.d with
      | some z => some (z, st1)
      | none => none
    | none => none
  | .call f es, ρ, st => match evEs es ρ st with
    | some (ds, st1) => F f ds st1
    | none => none
  | .callk f es perm, ρ, st => match evEs es ρ st with
    | some (ds, st1) => F f (permD ds perm) st1
    | none => none
  | .blt b es, ρ, st => match evEs es ρ st with
    | some (ds, st1) => match blt b ds with
      | some z => some (z, st1)
      | none => none
    | none => none
  | .isi t a, ρ, st => match evE a ρ st with
    | some (x, st1) => match isi t x.d with
      | some b => some (.v (.bool b), st1)
      | none => none
    | none => none
  | .meth _ _ _, _, _ => none
  | .lrng es, ρ, st => match evEs es ρ st with
    | some (ds, st1) => match rangeOf ds with
      | some z => some (.o z, st1)
      | none => none
    | none => none
  | .trng es, ρ, st => match evEs es ρ st with
    | some (ds, st1) => match rangeOf ds with
      | some z => some (.v (.tuple z), st1)
      | none => none
    | none => none
  | .comp own tg it ifs elt, ρ, st => match evI it ρ st with
    | some (ds, st1) => match mapM (fun d st => match bindTg tg d (wipeE ρ own) with
        | some ρ1 => match evIfs ifs ρ1 st with
          | some (true, st2) => match evE elt ρ1 st2 with
            | some (y, st3) => some ([y.d], st3)
            | none => none
          | some (false, st2) => some ([], st2)
          | none => none
        | none => none) ds st1 with
      | some (ys, st2) => if ys.length ≤ maxLen then some (.o ys, st2) else none
      | none => none
    | none => none
  | .comp2 own tg it ifs tg1 it1 ifs1 elt, ρ, st => match evI it ρ st with
    | some (ds, st1) => match mapM (fun d st => match bindTg tg d (wipeE (hideO ρ) own) with
        | some ρ1 => match evIfs ifs ρ1 st with
          | some (true, st2) => match evI it1 ρ1 st2 with
            | some (es, st3) => mapM (fun e st => match bindTg tg1 e (wipeE ρ1 (slotsOf tg1)) with
                | some ρ2 => match evIfs ifs1 ρ2 st with
                  | some (true, st2) => match evE elt ρ2 st2 with
                    | some (y, st3) => some ([y.d], st3)
                    | none => none
                  | some (false, st2) => some ([], st2)
                  | none => none
                | none => none) es st3
            | none => none
          | some (false, st2) => some ([], st2)
          | none => none
        | none => none) ds st1 with
      | some (ys, st2) => if ys.length ≤ maxLen then some (.o ys, st2) else none
      | none => none
    | none => none
  | .cnt a x, ρ, st => match evE a ρ st with
    | some (y, st1) => match evE x ρ st1 with
      | some (z, st2) => match cnt2 y.d z.d with
        | some d => some (.v d, st2)
        | none => none
      | none => none
    | none => none
  | .idx a x, ρ, st => match evE a ρ st with
    | some (y, st1) => match evE x ρ st1 with
      | some (z, st2) => match idx2 y.d z.d with
        | some d => some (.v d, st2)
        | none => none
      | none => none
    | none => none
  | .sset a, ρ, st => match evE a ρ st with
    | some (y, st1) => match sset1 y.d with
      | some ds => some (.o ds, st1)
      | none => none
    | none => none
  | .dlit ks es, ρ, st => match evEs es ρ st with
    | some (ds, st1) => if ks.length = ds.length ∧ ks.Nodup ∧ ks.length ≤ 15 then some (.v (dOf (ks.map .inr) ds), st1) else none
    | none => none
  | .dlitI is es, ρ, st => match keysAt ρ is, evEs es ρ st with
    | some ks, some (ds, st1) => if ks ≠ [] ∧ ks.length = ds.length ∧ ks.Nodup ∧ ks.length ≤ 15 then some (.v (dOf ks ds), st1) else none
    | _, _ => none
  | .dget a k z, ρ, st => match evE a ρ st with
    | some (x, st1) => match evE k ρ st1 with
      | some (y, st2) => match evE z ρ st2 with
        | some (w, st3) => match dget3 x.d y.d w.d with
          | some d => some (.v d, st3)
          | none => none
        | none => none
      | none => none
    | none => none
  | .lam n, _, st => some (.v (cloD n), st)
  | .cc g a es ls, ρ, st => match evE a ρ st with
    | some (x, st1) => match evEs es ρ st1 with
      | some (ds, st2) => match cloOf x.d with
        | some n => match evL ls n ρ st2 with
          | some o => F g (o :: ds) st2
          | none => none
        | none => none
      | none => none
    | none => none
  | .excIs x a, ρ, st => match evE a ρ st with
    | some (y, st1) => match excIs1 x y.d with
      | some b => some (.v (.bool b), st1)
      | none => none
    | none => none
  | .excVal a, ρ, st => match evE a ρ st with
    | some (y, st1) => match excVal1 y.d with
      | some d => some (.v d, st1)
      | none => none
    | none => none
/-- a closure's outcome; its arguments change nothing -/
def evL : LLs → Nat → Rho → Sto → Option D
  | .nil, _, _, _ => none
  | .cons m f es r, n, ρ, st => if m = n then match evEs es (hideC ρ) [] with
      | some (ds, _) => match F (f + 5 * B0) ds [] with
        | some (.v o, _) => some o
        | _ => none
      | none => none
    else evL r n ρ st
def evEs : CEs → Rho → Sto → Option (List D × Sto)
  | .nil, _, st => some ([], st)
  | .cons s e r, ρ, st => match evE e ρ st with
    | some (x, st1) => match evEs r ρ st1 with
      | some (ds, st2) => match s, x.d with
        | false, d => some (d :: ds, st2)
        | true, .tuple xs => some (xs ++ ds, st2)
        | true, .list xs => some (xs ++ ds, st2)
        | true, _ => none
      | none => none
    | none => none
def evIfs : CEs → Rho → Sto → Option (Bool × Sto)
  | .nil, _, st => some (true, st)
  | .cons _ e r, ρ, st => match evE e ρ st with
    | some (x, st1) => match truth x.d with
      | some true => evIfs r ρ st1
      | some false => some (false, st1)
      | none => none
    | none => none
def evO : CEo → Rho → Sto → Option (Option D × Sto)
  | .none, _, st => some (none, st)
  | .some e, ρ, st => match evE e ρ st with
    | some (x, st1) => some (some x.d, st1)
    | none => none
/-- what is walked -/
def evI : CI → Rho → Sto → Option (List D × Sto)
  | .seq e, ρ, st => match evE e ρ st with
    | some (x, st1) => match x.d with
      | .list ds => some (ds, st1)
      | .tuple ds => some (ds, st1)
      | _ => none
    | none => none
  | .rng es, ρ, st => match evEs es ρ st with
    | some (ds, st1) => match rangeOf ds with
      | some z => some (z, st1)
      | none => none
    | none => none
  | .enum e, ρ, st => match evE e ρ st with
    | some (x, st1) => match x.d with
      | .list ds => some (ds.zipIdx.map (fun p => .tuple [.int (p.2 : Nat), p.1]), st1)
      | .tuple ds => some (ds.zipIdx.map (fun p => .tuple [.int (p.2 : Nat), p.1]), st1)
      | _ => none
    | none => none
  | .zip a b, ρ, st => match evE a ρ st with
    | some (x, st1) => match evE b ρ st1 with
      | some (y, st2) => match x.d, y.d with
        | .tuple xs, .tuple ys => some ((xs.zip ys).map (fun p => .tuple [p.1, p.2]), st2)
        | .list xs, .list ys => some ((xs.zip ys).map (fun p => .tuple [p.1, p.2]), st2)
        | _, _ => none
      | none => none
    | none => none
end

/-! ### statements -/
mutual
inductive CS
  | expr (e : CE)
  | asg (t : Tg) (e : CE)
  | asgO (i : Nat) (e : CE)
  | par (is : List (Nat × Bool)) (es : CEs)
  | setS (sl : Nat) (ix e : CE)            -- x[ix] = e, x a list that the slot owns
  | setS2 (sl : Nat) (i1 i2 e1 e2 : CE)       -- x[i1], x[i2] = e1, e2
  | setC (sl : Nat) (ix e : CE)             -- x[ix] = e, x a cell
  | app (sl : Nat) (e : CE)
  | ext (sl : Nat) (e : CE)
  | popAt (sl : Nat) (e : CE)
  | appPop (to sl : Nat) (e : CE)
  | ret (e : CE)
  | retO (i : Nat)
  | ite (c : CE) (a b : CSs)
  | for_ (t : Tg) (it : CI) (b : CSs)
  | while_ (c : CE) (b : CSs)
  | brk
  | cont
  | bad
  | freeze (i : Nat)
  | mkcell (i : Nat)
  | raise (c : Str) (e : CE)
  | cgt (t i : Nat) (b : Bool)
  | cret (i : Nat) (b : Bool)
inductive CSs
  | nil
  | cons (s : CS) (r : CSs)
end
inductive Fl where
  | nx (ρ : Rho) (st : Sto)
  | rt (r : RV) (st : Sto)
  | bk (ρ : Rho) (st : Sto)
  | ct (ρ : Rho) (st : Sto)

def bindSlots : List Nat → List D → Rho → Option Rho
  | [], [], ρ => some ρ
  | i :: is, d :: ds, ρ => bindSlots is ds (ρ.set i (some (.v d)))
  | _, _, _ => none

def loop (f : D → Rho → Sto → Option Fl) : List D → Rho → Sto → Option Fl
  | [], ρ, st => some (.nx ρ st)
  | x :: r, ρ, st => match f x ρ st with
    | some (.nx ρ1 st1) => loop f r ρ1 st1
    | some (.ct ρ1 st1) => loop f r ρ1 st1
    | some (.bk ρ1 st1) => some (.nx ρ1 st1)
    | some (.rt v st1) => some (.rt v st1)
    | none => none
def loopW (c : Rho → Sto → Option (Bool × Sto)) (f : Rho → Sto → Option Fl) : Nat → Rho → Sto → Option Fl
  | 0, _, _ => none
  | n + 1, ρ, st => match c ρ st with
    | some (false, st1) => some (.nx ρ st1)
    | some (true, st1) => match f ρ st1 with
      | some (.nx ρ1 st1) => loopW c f n ρ1 st1
      | some (.ct ρ1 st1) => loopW c f n ρ1 st1
      | some (.bk ρ1 st1) => some (.nx ρ1 st1)
      | some (.rt v st1) => some (.rt v st1)
      | none => none
    | none => none

def setAt (ds : List D) (i : D) (x : D) : Option (List D) :=
  match i with
  | .int k => (L2.ixN ds.length k).map fun p => ds.set p x
  | _ => none

mutual
def evS (W : Nat) : CS → Rho → Sto → Option Fl
  | .expr e, ρ, st => match evE F e ρ st with
    | some (_, st1) => some (.nx ρ st1)
    | none => none
  | .asgO i e, ρ, st => match evE F e ρ st with
    | some (.o ds, st1) => some (.nx (ρ.set i (some (.o ds))) st1)
    | _ => none
  | .asg t e, ρ, st => match evE F e ρ st with
    | some (x, st1) => match bindTg t x.d ρ with
      | some ρ1 => some (.nx ρ1 st1)
      | none => none
    | none => none
  | .par is es, ρ, st => match evPar is es ρ ρ st with
    | some (ρ1, st1) => some (.nx ρ1 st1)
    | none => none
  | .setS i ix e, ρ, st => match evE F e ρ st with
    | some (x, st1) => match evE F ix ρ st1 with
      | some (k, st2) => match ρ[i]? with
        | some (some (.o ds)) => match setAt ds k.d x.d with
          | some ds1 => some (.nx (ρ.set i (some (.o ds1))) st2)
          | none => none
        | _ => none
      | none => none
    | none => none
  | .setS2 i i1 i2 e1 e2, ρ, st => match evE F e1 ρ st with
    | some (x1, st1) => match evE F e2 ρ st1 with
      | some (x2, st2) => match evE F i1 ρ st2 with
        | some (k1, st3) => match ρ[i]? with
          | some (some (.o ds)) => match setAt ds k1.d x1.d with
            | some ds1 => match evE F i2 (ρ.set i (some (.o ds1))) st3 with
              | some (k2, st4) => match setAt ds1 k2.d x2.d with
                | some ds2 => some (.nx (ρ.set i (some (.o ds2))) st4)
                | none => none
              | none => none
            | none => none
          | _ => none
        | none => none
      | none => none
    | none => none
  | .setC i ix e, ρ, st => match evE F e ρ st with
    | some (x, st1) => match evE F ix ρ st1 with
      | some (k, st2) => match ρ[i]? with
        | some (some (.v c)) => match cellOf c with
          | some n => match st2[n]? with
            | some ds => match setAt ds k.d x.d with
              | some ds1 => some (.nx ρ (st2.set n ds1))
              | none => none
            | none => none
          | none => none
        | _ => none
      | none => none
    | none => none
  | .app i e, ρ, st => match evE F e ρ st with
    | some (x, st1) => match ρ[i]? with
      | some (some (.o ds)) => if ds.length < maxLen then some (.nx (ρ.set i (some (.o (ds ++ [x.d])))) st1) else none
      | _ => none
    | none => none
  | .ext i e, ρ, st => match evE F e ρ st with
    | some (.o xs, st1) => match ρ[i]? with
      | some (some (.o ds)) => if ds.length + xs.length ≤ maxLen then some (.nx (ρ.set i (some (.o (ds ++ xs)))) st1) else none
      | _ => none
    | _ => none
  | .popAt i e, ρ, st => match evE F e ρ st with
    | some (.v (.int k), st1) => match ρ[i]? with
      | some (some (.o ds)) => match L2.ixN ds.length k with
        | some p => if ds.length ≤ maxLen then some (.nx (ρ.set i (some (.o (ds.eraseIdx p)))) st1) else none
        | none => none
      | _ => none
    | _ => none
  | .appPop t i e, ρ, st => match evE F e ρ st with
    | some (.v (.int k), st1) => match ρ[i]?, ρ[t]? with
      | some (some (.o ds)), some (some (.o us)) => match L2.ixN ds.length k with
        | some p => if ds.length ≤ maxLen ∧ us.length < maxLen ∧ t ≠ i then match ds[p]? with
          | some d => some (.nx ((ρ.set i (some (.o (ds.eraseIdx p)))).set t (some (.o (us ++ [d])))) st1)
          | none => none
          else none
        | none => none
      | _, _ => none
    | _ => none
  | .ret e, ρ, st => match evE F e ρ st with
    | some (x, st1) => some (.rt x st1)
    | none => none
  | .retO i, ρ, st => match ρ[i]? with
    | some (some (.o ds)) => some (.rt (.o ds) st)
    | _ => none
  | .ite c a b, ρ, st => match evE F c ρ st with
    | some (x, st1) => match truth x.d with
      | some true => evSs W a ρ st1
      | some false => evSs W b ρ st1
      | none => none
    | none => none
  | .for_ t it b, ρ, st => match evI F it ρ st with
    | some (ds, st1) => loop (fun d ρ st => match bindTg t d ρ with
        | some ρ1 => evSs W b ρ1 st
        | none => none) ds ρ st1
    | none => none
  | .while_ c b, ρ, st => loopW (fun ρ st => match evE F c ρ st with
      | some (x, st1) => match truth x.d with
        | some k => some (k, st1)
        | none => none
      | none => none) (fun ρ st => evSs W b ρ st) W ρ st
  | .brk, ρ, st => some (.bk ρ st)
  | .cont, ρ, st => some (.ct ρ st)
  | .bad, _, _ => none
  | .freeze i, ρ, st => match ρ[i]? with
    | some (some (.o ds)) => some (.nx (ρ.set i (some (.v (.list ds)))) st)
    | _ => none
  | .mkcell i, ρ, st => match ρ[i]? with
    | some (some (.o ds)) => some (.nx (ρ.set i (some (.v (.dict [(.none, .int st.length)])))) (st ++ [ds]))
    | _ => none
  | .raise _ _, _, _ => none
  | .cgt t i b, ρ, st => match ρ[i]? with
    | some (some (.v x)) => match ocOf x with
      | some o => some (.nx ((ρ.set i none).set t (some (.v (if b then o.ct else .tuple [o.ct, o.bk])))) st)
      | none => none
    | _ => none
  | .cret i b, ρ, st => match ρ[i]? with
    | some (some (.v x)) => match ocOf x with
      | some o => some (.rt (.v (if b then o.ct else .tuple [o.ct, o.bk])) st)
      | none => none
    | _ => none
def evSs (W : Nat) : CSs → Rho → Sto → Option Fl
  | .nil, ρ, st => some (.nx ρ st)
  | .cons s r, ρ, st => match evS W s ρ st with
    | some (.nx ρ1 st1) => evSs W r ρ1 st1
    | o => o
def evPar : List (Nat × Bool) → CEs → Rho → Rho → Sto → Option (Rho × Sto)
  | [], .nil, _, ρ1, st => some (ρ1, st)
  | (i, false) :: is, .cons false e r, ρ, ρ1, st => match evE F e ρ st with
    | some (x, st1) => evPar is r ρ (ρ1.set i (some (.v x.d))) st1
    | none => none
  | (i, true) :: is, .cons false e r, ρ, ρ1, st => match evE F e ρ st with
    | some (.o ds, st1) => evPar is r ρ (ρ1.set i (some (.o ds))) st1
    | _ => none
  | _, _, _, _, _ => none
end

/-! ### what is raised -/
def exOf : Option (RV × Sto) → Option (Str × D × Sto)
  | some (.v (.tuple [.str c, d]), st) => some (c, d, st)
  | _ => none
/-- an expression raises -/
def xE : CE → Rho → Sto → Option (Str × D × Sto)
  | .call f es, ρ, st => match evEs F es ρ st with
    | some (ds, st1) => exOf (F (f + B0) ds st1)
    | none => none
  | _, _, _ => none
/-- a loop that ends in an exception: f the body's way, g its exception -/
def loopX (f : D → Rho → Sto → Option Fl) (g : D → Rho → Sto → Option (Str × D × Sto)) : List D → Rho → Sto → Option (Str × D × Sto)
  | [], _, _ => none
  | x :: r, ρ, st => match f x ρ st with
    | some (.nx ρ1 st1) => loopX f g r ρ1 st1
    | some (.ct ρ1 st1) => loopX f g r ρ1 st1
    | some _ => none
    | none => g x ρ st
mutual
def xS (W : Nat) : CS → Rho → Sto → Option (Str × D × Sto)
  | .raise c e, ρ, st => match evE F e ρ st with
    | some (x, st1) => some (c, x.d, st1)
    | none => none
  | .expr e, ρ, st => xE F e ρ st
  | .asg (.nm _) e, ρ, st => xE F e ρ st
  | .asgO _ e, ρ, st => xE F e ρ st
  | .ret e, ρ, st => xE F e ρ st
  | .ite c a b, ρ, st => match evE F c ρ st with
    | some (x, st1) => match truth x.d with
      | some true => xSs W a ρ st1
      | some false => xSs W b ρ st1
      | none => none
    | none => none
  | .for_ t it b, ρ, st => match evI F it ρ st with
    | some (ds, st1) => loopX (fun d ρ st => match bindTg t d ρ with
        | some ρ1 => evSs F W b ρ1 st
        | none => none) (fun d ρ st => match bindTg t d ρ with
        | some ρ1 => xSs W b ρ1 st
        | none => none) ds ρ st1
    | none => none
  | _, _, _ => none
def xSs (W : Nat) : CSs → Rho → Sto → Option (Str × D × Sto)
  | .nil, _, _ => none
  | .cons s r, ρ, st => match evS F W s ρ st with
    | some (.nx ρ1 st1) => xSs W r ρ1 st1
    | some _ => none
    | none => xS W s ρ st
end

structure FD where
  slots : Nat
  par : Nat
  body : CSs
  lam : LLs := .nil
def initE (n : Nat) (ds : List D) : Rho := (ds.map fun d => some (.v d)) ++ List.replicate (n - ds.length) none
def pcl (d : D) : Bool := pur d || (cellOf d).isSome
/-- a def that makes closures lets none in, none out -/
def finL (l : LLs) (ds : List D) (st : Sto) (o : Option (RV × Sto)) : Option (RV × Sto) := match l with
  | .nil => o
  | _ => if ds.all pcl && st.all purs then match o with
    | some (r, st) => if pur r.d && st.all purs then some (r, st) else none
    | none => none
    else none
def lamAt : LLs → Nat → Option (Nat × CEs)
  | .nil, _ => none
  | .cons m f es r, n => if m = n then some (f, es) else lamAt r n
/-- a def's outcome: what it returns, or what it raises -/
def ocF (a b : Option (RV × Sto)) : Option (RV × Sto) := match a with
  | some (r, _) => some (.v (ovalD r.d), [])
  | none => match exOf b with
    | some (c, d, _) => some (.v (oexcD c d), [])
    | none => none
/-- a program: its defs by number; calls so deep -/
def evF (P : Nat → Option FD) (W : Nat) : Nat → FT
  | 0, _, _, _ => none
  | k + 1, f, ds, st => match P f with
    | some d => if ds.length = d.par then finL d.lam ds st (match evSs (evF P W k) W d.body (initE d.slots ds) st with
      | some (.nx _ st1) => if st1.length = st.length then some (.v .none, st1) else none
      | some (.rt r st1) => if st1.length = st.length then some (r, st1) else none
      | _ => none)
      else none
    | none => match f / B0 with
      | 0 => none
      | 1 => match P (f - B0) with
        | some d => match d.lam with
          | .nil => if ds.length = d.par then match xSs (evF P W k) W d.body (initE d.slots ds) st with
            | some (c, x, st1) => if st1.length = st.length then some (.v (.tuple [.str c, x]), st1) else none
            | none => none
            else none
          | _ => none
        | none => none
      | 2 => ocF (evF P W k (f - 2 * B0) ds []) (evF P W k (f - B0) ds [])
      | _ => evF P W k (f - B0) ds st
end Ev

set_option Elab.async false
set_option linter.all false
set_option maxRecDepth 100000
set_option maxHeartbeats 1000000
/-! The relation between data trees and the layer's abstract heap. -/
namespace Ev
open PySem PySem.Spec PyProof.Rows L2

/-- a list apart from those at P: or it is one of the written program -/
def Na (K : PySem.W.Frag) (P : Addr → Prop) (a : Addr) (vs : List V) : Prop := ¬ P a ∨ SqL K (fun _ => none) a vs
/-- a tuple that is known to have no dict -/
def SqD (K : PySem.W.Frag) (H : Hp) (a : Addr) (vs : List V) : Prop :=
  (∃ o : Obj, H a = some (.frz o (.tup vs)) ∧ o.dict = none) ∨ ∃ (o : Obj) (its : Array Value) (n : Nat), K.lookup a = some o ∧ o.cls = .type "tuple" ∧ o.dict = none ∧ o.data = .seq its n ∧ its.size ≤ sizeLine ∧ Vals vs its.toList
theorem SqD.t {K : PySem.W.Frag} {H : Hp} {a : Addr} {vs : List V} (h : SqD K H a vs) : SqT K H a vs := by
  rcases h with ⟨o, h, _⟩ | ⟨o, its, n, h1, h2, _, h3, h4, h5⟩
  · exact .inl (.inr ⟨o, h⟩)
  · exact .inr ⟨o, its, n, h1, h2, h3, h4, h5⟩
theorem SqD.new {K : PySem.W.Frag} {H : Hp} {p : Addr} {vs : List V} {o : Obj} (ho : o.dict = none) : SqD K (upd H p (.frz o (.tup vs))) p vs := .inl ⟨o, upd_same, ho⟩
/-- the tables of code objects, the classes of errors; what is a closure of the frame: its object, its number, its code object and name -/
class Zc where
  T : List (Addr × Str)
  er : List Str
  z : Obj → Nat → Addr → Str → Prop
variable [Zc]
mutual
inductive Rp (K : PySem.W.Frag) (cs : List Addr) (Av : Addr → Prop) (H : Hp) : V → D → Prop
  | non : Rp K cs Av H .non .none
  | bl (b : Bool) : Rp K cs Av H (.bl b) (.bool b)
  | int (i : Int) : Rp K cs Av H (.int i) (.int i)
  | str (x : Str) : Rp K cs Av H (.str x) (.str x)
  | lst {a : Addr} {vs : List V} {ds : List D} : Na K Av a vs → SqL K H a vs → Rps K cs Av H vs ds → Rp K cs Av H (.ref a) (.list ds)
  | tup {a : Addr} {vs : List V} {ds : List D} : SqD K H a vs → Rps K cs Av H vs ds → Rp K cs Av H (.ref a) (.tuple ds)
  | cell {a : Addr} {n : Nat} : cs[n]? = some a → Rp K cs Av H (.ref a) (.dict [(.none, .int n)])
  | dct {a : Addr} {ks : List L2.Key} {vs : List V} {ds : List D} {kd : List (D × D)} : H a = some (.dK (ks.zip vs)) → ks ≠ [] → ks.length = ds.length → Rps K cs Av H vs ds → kd = (ks.zip ds).map (fun p => (kD p.1, p.2)) → Rp K cs Av H (.ref a) (.dict kd)
  | dct0 {a : Addr} : H a = some (.dT []) → Rp K cs Av H (.ref a) (.dict [])
  | exc {a dd : Addr} {o : Obj} {u : HO} {c : Str} {v : V} {d : D} : c ∈ Zc.er → H a = some (.frz o u) → o.cls = .ref (He.ga K c) → o.dict = some dd → (∃ vs, o.data = .fields vs) → H dd = some (.xd [("value", v)]) → Rp K cs Av H v d → Rp K cs Av H (.ref a) (.dict [(.none, .tuple [.str c, d])])
  | clo {f c : Addr} {o : Obj} {u : HO} {n : Nat} {q : Str} : Zc.z o n c q → H f = some (.frz o u) → H c = some (LamX.CodeO c q) → Rp K cs Av H (.ref f) (.dict [(.none, .list [.int n])])
inductive Rps (K : PySem.W.Frag) (cs : List Addr) (Av : Addr → Prop) (H : Hp) : List V → List D → Prop
  | nil : Rps K cs Av H [] []
  | cons {v : V} {vs : List V} {d : D} {ds : List D} : Rp K cs Av H v d → Rps K cs Av H vs ds → Rps K cs Av H (v :: vs) (d :: ds)
end
/-- as Rp, but the outermost list may be one that a slot owns -/
def Rw (K : PySem.W.Frag) (cs : List Addr) (Av : Addr → Prop) (H : Hp) (v : V) (d : D) : Prop :=
  Rp K cs Av H v d ∨ ∃ a vs ds, v = .ref a ∧ d = .list ds ∧ Na K (· ∈ cs) a vs ∧ SqL K H a vs ∧ Rps K cs Av H vs ds
/-- all but the cells is kept -/
structure Ext (cs : List Addr) (H H' : Hp) : Prop where
  k : ∀ b o, H b = some o → b ∉ cs → (∀ ps, o ≠ .tbl ps) → H' b = some o
  t : ∀ b ps, H b = some (.tbl ps) → ∃ ps', H' b = some (.tbl ps')
  tab : LamX.Tabs Zc.T H → LamX.Tabs Zc.T H'
structure AvOk (cs : List Addr) (Av : Addr → Prop) (H : Hp) : Prop where
  sub : ∀ a ∈ cs, Av a
  lst : ∀ a, Av a → ∃ xs, H a = some (.lst xs)
  tab : LamX.Tabs Zc.T H
structure Cl (K : PySem.W.Frag) (cs : List Addr) (Av : Addr → Prop) (H : Hp) (st : Sto) : Prop where
  len : cs.length = st.length
  nd : cs.Nodup
  at_ : ∀ (n : Nat) (a : Addr) (ds : List D), cs[n]? = some a → st[n]? = some ds → ∃ vs, H a = some (.lst vs) ∧ Rps K cs Av H vs ds
/-- what a result stands for: data, or a new list -/
def RpR (K : PySem.W.Frag) (cs : List Addr) (Av : Addr → Prop) (H0 H : Hp) (v : V) : RV → Prop
  | .v d => Rp K cs Av H v d
  | .o ds => ∃ a vs, v = .ref a ∧ H0 a = none ∧ H a = some (.lst vs) ∧ Rps K cs (fun b => Av b ∨ b = a) H vs ds
def SlotOk (K : PySem.W.Frag) (cs : List Addr) (Av : Addr → Prop) (H : Hp) (v : Option (Option V)) : Option (Option RV) → Prop
  | some (some (.v d)) => ∃ x, v = some (some x) ∧ Rp K cs Av H x d
  | some (some (.o ds)) => ∃ a vs, v = some (some (.ref a)) ∧ Av a ∧ a ∉ cs ∧ H a = some (.lst vs) ∧ Rps K cs Av H vs ds
  | _ => True
structure En (K : PySem.W.Frag) (cs : List Addr) (Av : Addr → Prop) (H : Hp) (σ : L2.St) (ρ : Rho) : Prop where
  len : σ.length = ρ.length
  at_ : ∀ i : Nat, SlotOk K cs Av H σ[i]? ρ[i]?

section
variable {K : PySem.W.Frag} {cs : List Addr} {Av Av' : Addr → Prop} {H H' H1 H2 : Hp} {v : V} {vs : List V} {d : D} {ds : List D} {st : Sto} {σ : L2.St} {ρ : Rho} {r : RV}
theorem Ext.refl (cs : List Addr) (H : Hp) : Ext cs H H := ⟨fun _ _ h _ _ => h, fun _ ps h => ⟨ps, h⟩, id⟩
theorem Ext.trans (a : Ext cs H H1) (b : Ext cs H1 H2) : Ext cs H H2 := ⟨fun c o h n x => b.k c o (a.k c o h n x) n x, fun c ps h => by
  obtain ⟨p1, h1⟩ := a.t c ps h
  exact b.t c p1 h1, fun h => b.tab (a.tab h)⟩
theorem Ext.all (a : Ext [] H H1) : Ext cs H H1 := ⟨fun c o h _ x => a.k c o h (by simp) x, a.t, a.tab⟩
theorem Ext.upd {p : Addr} {o : HO} (h : H p = none) : Ext cs H (upd H p o) := ⟨fun b u e _ _ => by
  rw [upd_ne (ne_of_none e h)]; exact e, fun b ps e => ⟨ps, by rw [upd_ne (ne_of_none e h)]; exact e⟩, fun t => t.ext fun b u e => by
  rw [upd_ne (ne_of_none e h)]; exact e⟩
theorem Ext.free {p : Addr} (e : Ext [] H H1) (h : H1 p = none) : H p = none := by
  cases q : H p with
  | none => rfl
  | some o =>
    by_cases ht : ∃ ps, o = .tbl ps
    · obtain ⟨ps, rfl⟩ := ht
      obtain ⟨p1, z⟩ := e.t p ps q
      rw [h] at z; cases z
    · have := e.k p o q (by simp) fun ps z => ht ⟨ps, z⟩
      rw [h] at this; cases this
theorem Ext.no {p : Addr} (e : Ext cs H H1) (h : H1 p = none) (n : p ∉ cs) : H p = none := by
  cases q : H p with
  | none => rfl
  | some o =>
    by_cases ht : ∃ ps, o = .tbl ps
    · obtain ⟨ps, rfl⟩ := ht
      obtain ⟨p1, z⟩ := e.t p ps q
      rw [h] at z; cases z
    · have := e.k p o q n fun ps z => ht ⟨ps, z⟩
      rw [h] at this; cases this
/-- what is no table and no code object is written: the tables stand -/
theorem tabs_chg {T : List (Addr × Str)} {L : Addr} {o u : HO} (t : LamX.Tabs T H) (h : H L = some o) (n1 : ∀ ps, o ≠ .tbl ps) (n2 : ∀ c q, o ≠ LamX.CodeO c q) : LamX.Tabs T (upd H L u) := fun p hp => by
  obtain ⟨ps, a1, a2, a3⟩ := t p hp
  refine ⟨ps, by rw [upd_ne (fun z => by rw [z, h] at a1; exact n1 _ (Option.some.inj a1))]; exact a1, a2, fun pos cv hc => ?_⟩
  obtain ⟨c, e1, e2⟩ := a3 pos cv hc
  exact ⟨c, e1, by rw [upd_ne (fun z => by rw [z, h] at e2; exact n2 _ _ (Option.some.inj e2))]; exact e2⟩
theorem tabs_put {T : List (Addr × Str)} {L : Addr} {xs : List V} {u : HO} (t : LamX.Tabs T H) (h : H L = some (.lst xs)) : LamX.Tabs T (upd H L u) := tabs_chg t h (fun _ z => nomatch z) fun c q z => by unfold LamX.CodeO at z; cases z
theorem tabs_dk {T : List (Addr × Str)} {L : Addr} {xs : List (L2.Key × V)} {u : HO} (t : LamX.Tabs T H) (h : H L = some (.dK xs)) : LamX.Tabs T (upd H L u) := tabs_chg t h (fun _ z => nomatch z) fun c q z => by unfold LamX.CodeO at z; cases z
theorem tbl_put {L p : Addr} {xs ys : List V} {ps : Array Value} (h : H L = some (.lst xs)) (e : H p = some (.tbl ps)) : ∃ ps', upd H L (.lst ys) p = some (.tbl ps') := ⟨ps, by rw [upd_ne (fun z => by rw [z, h] at e; cases e)]; exact e⟩
theorem AvOk.not_cell (ok : AvOk cs Av H) {a : Addr} {o : HO} (h : H a = some o) (hn : ∀ xs, o ≠ .lst xs) : a ∉ cs := fun hm => by
  obtain ⟨xs, e⟩ := ok.lst a (ok.sub a hm)
  rw [h] at e
  exact hn xs (Option.some.inj e)
theorem sqT_ext (ok : AvOk cs Av H) (e : Ext cs H H') {a : Addr} (h : SqT K H a vs) : SqT K H' a vs := by
  rcases h with (h | ⟨o, h⟩) | h
  · exact .inl (.inl (e.k a _ h (ok.not_cell h (by intro _ z; cases z)) (fun _ z => nomatch z)))
  · exact .inl (.inr ⟨o, e.k a _ h (ok.not_cell h (by intro _ z; cases z)) (fun _ z => nomatch z)⟩)
  · exact .inr h
theorem sqD_ext (ok : AvOk cs Av H) (e : Ext cs H H') {a : Addr} (h : SqD K H a vs) : SqD K H' a vs := by
  rcases h with ⟨o, h, d⟩ | h
  · exact .inl ⟨o, e.k a _ h (ok.not_cell h (by intro _ z; cases z)) (fun _ z => nomatch z), d⟩
  · exact .inr h
theorem kl_any {a : Addr} (h : SqL K (fun _ => none) a vs) : SqL K H a vs := by
  rcases h with (h | ⟨o, h⟩) | h
  · cases h
  · cases h
  · exact .inr h
theorem sqL_ext {a : Addr} (h : SqL K H a vs) (ok : AvOk cs Av H) (e : Ext cs H H') (na : Na K (· ∈ cs) a vs) : SqL K H' a vs := by
  rcases na with na | na
  case inr => exact kl_any na
  rcases h with (h | ⟨o, h⟩) | h
  · exact .inl (.inl (e.k a _ h na (fun _ z => nomatch z)))
  · exact .inl (.inr ⟨o, e.k a _ h na (fun _ z => nomatch z)⟩)
  · exact .inr h
mutual
theorem Rp.ext (ok : AvOk cs Av H) (e : Ext cs H H') : ∀ {v : V} {d : D}, Rp K cs Av H v d → Rp K cs Av H' v d
  | _, _, .non => .non
  | _, _, .bl b => .bl b
  | _, _, .int i => .int i
  | _, _, .str x => .str x
  | _, _, .lst na h r => .lst na (sqL_ext h ok e (na.imp (fun n z => n (ok.sub _ z)) id)) (Rps.ext ok e r)
  | _, _, .tup h r => .tup (sqD_ext ok e h) (Rps.ext ok e r)
  | _, _, .cell h => .cell h
  | _, _, .dct h h0 hl r hk => .dct (e.k _ _ h (ok.not_cell h fun xs z => nomatch z) (fun _ z => nomatch z)) h0 hl (Rps.ext ok e r) hk
  | _, _, .dct0 h => .dct0 (e.k _ _ h (ok.not_cell h fun xs z => nomatch z) (fun _ z => nomatch z))
  | _, _, .exc hc h h1 h2 h3 h4 r => .exc hc (e.k _ _ h (ok.not_cell h fun xs z => nomatch z) (fun _ z => nomatch z)) h1 h2 h3 (e.k _ _ h4 (ok.not_cell h4 fun xs z => nomatch z) (fun _ z => nomatch z)) (Rp.ext ok e r)
  | _, _, .clo hz h hc => .clo hz (e.k _ _ h (ok.not_cell h fun xs z => nomatch z) (fun _ z => nomatch z)) (e.k _ _ hc (ok.not_cell hc fun xs z => nomatch z) LamX.codeO_ne)
theorem Rps.ext (ok : AvOk cs Av H) (e : Ext cs H H') : ∀ {vs : List V} {ds : List D}, Rps K cs Av H vs ds → Rps K cs Av H' vs ds
  | _, _, .nil => .nil
  | _, _, .cons r t => .cons (Rp.ext ok e r) (Rps.ext ok e t)
end
mutual
/-- another avoidance: fewer lists, or lists that did not stand -/
theorem Rp.av (h : ∀ a, Av' a → Av a ∨ H a = none) : ∀ {v : V} {d : D}, Rp K cs Av H v d → Rp K cs Av' H v d
  | _, _, .non => .non
  | _, _, .bl b => .bl b
  | _, _, .int i => .int i
  | _, _, .str x => .str x
  | _, _, .lst na hl r => .lst (by
      rcases na with na | na
      case inr => exact .inr na
      rcases hl with (hl | ⟨o, hl⟩) | hl
      · refine .inl fun z => ?_
        rcases h _ z with q | q
        · exact na q
        · rw [q] at hl; cases hl
      · refine .inl fun z => ?_
        rcases h _ z with q | q
        · exact na q
        · rw [q] at hl; cases hl
      · exact .inr (.inr hl)) hl (Rps.av h r)
  | _, _, .tup ht r => .tup ht (Rps.av h r)
  | _, _, .cell hc => .cell hc
  | _, _, .dct hd h0 hl r hk => .dct hd h0 hl (Rps.av h r) hk
  | _, _, .dct0 hd => .dct0 hd
  | _, _, .exc hc h0 h1 h2 h3 h4 r => .exc hc h0 h1 h2 h3 h4 (Rp.av h r)
  | _, _, .clo hz h0 hc => .clo hz h0 hc
theorem Rps.av (h : ∀ a, Av' a → Av a ∨ H a = none) : ∀ {vs : List V} {ds : List D}, Rps K cs Av H vs ds → Rps K cs Av' H vs ds
  | _, _, .nil => .nil
  | _, _, .cons r t => .cons (Rp.av h r) (Rps.av h t)
end
end
/-- what is tracked is no part of the written program -/
def KFree (K : PySem.W.Frag) (H : Hp) : Prop := ∀ a o, H a = some o → K.lookup a = none
section
variable {X : Cx} {pins : List (Addr × Obj)} {σ : L2.St} {H : Hp} {s : Shared}
theorem kfree (I : Inv X pins σ H s) : KFree X.K H := fun a o e => by
  cases q : X.K.lookup a with
  | none => rfl
  | some u =>
    have b : X.base.get? a = some u := I.ok.mod.kin a u q
    rw [(I.bs a u b).2] at e
    cases e
end
section
variable {K : PySem.W.Frag} {cs : List Addr} {Av Av' : Addr → Prop} {H H' H1 H2 : Hp} {v : V} {vs : List V} {d : D} {ds : List D} {st : Sto} {σ : L2.St} {ρ : Rho} {r : RV}
theorem Rps.length : ∀ {vs : List V} {ds : List D}, Rps K cs Av H vs ds → vs.length = ds.length
  | _, _, .nil => rfl
  | _, _, .cons _ t => by simp [Rps.length t]
theorem Rps.append : ∀ {vs us : List V} {ds es : List D}, Rps K cs Av H vs ds → Rps K cs Av H us es → Rps K cs Av H (vs ++ us) (ds ++ es)
  | _, _, _, _, .nil, q => q
  | _, _, _, _, .cons r t, q => .cons r (Rps.append t q)
theorem Rps.get : ∀ {vs : List V} {ds : List D} {i : Nat} {d : D}, Rps K cs Av H vs ds → ds[i]? = some d → ∃ v, vs[i]? = some v ∧ Rp K cs Av H v d
  | _, _, _, _, .nil, e => by simp at e
  | _, _, 0, _, .cons r _, e => by simp at e; subst e; exact ⟨_, rfl, r⟩
  | _, _, i + 1, _, .cons _ t, e => by
    obtain ⟨u, h1, h2⟩ := Rps.get (i := i) t (by simpa using e)
    exact ⟨u, by simpa using h1, h2⟩
theorem Rps.getV : ∀ {vs : List V} {ds : List D} {i : Nat} {v : V}, Rps K cs Av H vs ds → vs[i]? = some v → ∃ d, ds[i]? = some d ∧ Rp K cs Av H v d
  | _, _, _, _, .nil, e => by simp at e
  | _, _, 0, _, .cons r _, e => by simp at e; subst e; exact ⟨_, rfl, r⟩
  | _, _, i + 1, _, .cons _ t, e => by
    obtain ⟨u, h1, h2⟩ := Rps.getV (i := i) t (by simpa using e)
    exact ⟨u, by simpa using h1, h2⟩
theorem Rps.take : ∀ {vs : List V} {ds : List D} (n : Nat), Rps K cs Av H vs ds → Rps K cs Av H (vs.take n) (ds.take n)
  | _, _, 0, _ => by simpa using .nil
  | _, _, _ + 1, .nil => by simpa using .nil
  | _, _, n + 1, .cons r t => by simpa using .cons r (Rps.take n t)
theorem Rps.drop : ∀ {vs : List V} {ds : List D} (n : Nat), Rps K cs Av H vs ds → Rps K cs Av H (vs.drop n) (ds.drop n)
  | _, _, 0, h => by simpa using h
  | _, _, _ + 1, .nil => by simpa using .nil
  | _, _, n + 1, .cons _ t => by simpa using Rps.drop n t
theorem Rps.set : ∀ {vs : List V} {ds : List D} (n : Nat) {v : V} {d : D}, Rps K cs Av H vs ds → Rp K cs Av H v d → Rps K cs Av H (vs.set n v) (ds.set n d)
  | _, _, _, _, _, .nil, _ => by simpa using .nil
  | _, _, 0, _, _, .cons _ t, q => by simpa using .cons q t
  | _, _, n + 1, _, _, .cons r t, q => by simpa using .cons r (Rps.set n t q)
theorem Rps.eraseIdx : ∀ {vs : List V} {ds : List D} (n : Nat), Rps K cs Av H vs ds → Rps K cs Av H (vs.eraseIdx n) (ds.eraseIdx n)
  | _, _, _, .nil => by simpa using .nil
  | _, _, 0, .cons _ t => by simpa using t
  | _, _, n + 1, .cons r t => by simpa using .cons r (Rps.eraseIdx n t)
theorem Rps.reverse {vs : List V} {ds : List D} (h : Rps K cs Av H vs ds) : Rps K cs Av H vs.reverse ds.reverse := by
  induction vs generalizing ds with
  | nil => cases h; exact .nil
  | cons v vs ih =>
    cases h with
    | cons r t => simpa using Rps.append (ih t) (.cons r .nil)
theorem Rps.rep {vs : List V} {ds : List D} (h : Rps K cs Av H vs ds) : ∀ n : Nat, Rps K cs Av H (List.replicate n vs).flatten (List.replicate n ds).flatten
  | 0 => .nil
  | n + 1 => by simpa [List.replicate_succ] using Rps.append h (Rps.rep h n)
theorem Rps.ints : ∀ (ns : List Int), Rps K cs Av H (ns.map V.int) (ns.map PyData.int)
  | [] => .nil
  | n :: r => .cons (.int n) (Rps.ints r)
theorem Rps.ints_of : ∀ {vs : List V} {ds : List D} {ns : List Int}, Rps K cs Av H vs ds → ints? ds = some ns → vs = ns.map V.int ∧ ds = ns.map PyData.int
  | _, _, _, .nil, e => by simp [ints?] at e; subst e; simp
  | _, _, _, .cons (d := d) r t, e => by
    cases d with
    | int i =>
      simp only [ints?, Option.map_eq_some_iff] at e
      obtain ⟨ms, e1, rfl⟩ := e
      obtain ⟨h1, h2⟩ := Rps.ints_of t e1
      cases r
      simp [h1, h2]
    | _ => simp [ints?] at e
theorem Rps.bools_of : ∀ {vs : List V} {ds : List D} {ns : List Bool}, Rps K cs Av H vs ds → bools? ds = some ns → vs = ns.map V.bl ∧ ds = ns.map PyData.bool
  | _, _, _, .nil, e => by simp [bools?] at e; subst e; simp
  | _, _, _, .cons (d := d) r t, e => by
    cases d with
    | bool i =>
      simp only [bools?, Option.map_eq_some_iff] at e
      obtain ⟨ms, e1, rfl⟩ := e
      obtain ⟨h1, h2⟩ := Rps.bools_of t e1
      cases r
      simp [h1, h2]
    | _ => simp [bools?] at e
end
def add (Av : Addr → Prop) (a : Addr) : Addr → Prop := fun b => Av b ∨ b = a
/-- all but the lists at P is kept -/
def ExtP (P : Addr → Prop) (H H' : Hp) : Prop := ∀ b o, H b = some o → ¬ P b → (∀ ps, o ≠ .tbl ps) → H' b = some o
section
variable {K : PySem.W.Frag} {cs : List Addr} {Av P : Addr → Prop} {H H' H1 H2 : Hp} {v : V} {vs : List V} {d : D} {ds : List D} {st : Sto}
theorem ExtP.refl : ExtP P H H := fun _ _ h _ _ => h
theorem ExtP.trans (a : ExtP P H H1) (b : ExtP P H1 H2) : ExtP P H H2 := fun c o h n x => b c o (a c o h n x) n x
theorem Ext.p (e : Ext cs H H') (h : ∀ a ∈ cs, P a) : ExtP P H H' := fun b o x n t => e.k b o x (fun z => n (h b z)) t
/-- what is avoided, and the lists that may be written -/
structure Avd (Av P : Addr → Prop) (H : Hp) : Prop where
  sub : ∀ a, P a → Av a
  lst : ∀ a, P a → ∃ xs, H a = some (.lst xs)
theorem Avd.not (a : Avd Av P H) {b : Addr} {o : HO} (h : H b = some o) (hn : ∀ xs, o ≠ .lst xs) : ¬ P b := fun z => by
  obtain ⟨xs, e⟩ := a.lst b z
  rw [h] at e
  exact hn xs (Option.some.inj e)
theorem sqT_p (a : Avd Av P H) (e : ExtP P H H') {b : Addr} (h : SqT K H b vs) : SqT K H' b vs := by
  rcases h with (h | ⟨o, h⟩) | h
  · exact .inl (.inl (e b _ h (a.not h (by intro _ z; cases z)) (fun _ z => nomatch z)))
  · exact .inl (.inr ⟨o, e b _ h (a.not h (by intro _ z; cases z)) (fun _ z => nomatch z)⟩)
  · exact .inr h
theorem sqD_p (a : Avd Av P H) (e : ExtP P H H') {b : Addr} (h : SqD K H b vs) : SqD K H' b vs := by
  rcases h with ⟨o, h, d⟩ | h
  · exact .inl ⟨o, e b _ h (a.not h (by intro _ z; cases z)) (fun _ z => nomatch z), d⟩
  · exact .inr h
theorem sqL_p {b : Addr} (h : SqL K H b vs) (e : ExtP P H H') (na : Na K P b vs) : SqL K H' b vs := by
  rcases na with na | na
  case inr => exact kl_any na
  rcases h with (h | ⟨o, h⟩) | h
  · exact .inl (.inl (e b _ h na (fun _ z => nomatch z)))
  · exact .inl (.inr ⟨o, e b _ h na (fun _ z => nomatch z)⟩)
  · exact .inr h
mutual
theorem Rp.p (a : Avd Av P H) (e : ExtP P H H') : ∀ {v : V} {d : D}, Rp K cs Av H v d → Rp K cs Av H' v d
  | _, _, .non => .non
  | _, _, .bl b => .bl b
  | _, _, .int i => .int i
  | _, _, .str x => .str x
  | _, _, .lst na h r => .lst na (sqL_p h e (na.imp (fun n z => n (a.sub _ z)) id)) (Rps.p a e r)
  | _, _, .tup h r => .tup (sqD_p a e h) (Rps.p a e r)
  | _, _, .cell h => .cell h
  | _, _, .dct h h0 hl r hk => .dct (e _ _ h (a.not h fun xs z => nomatch z) (fun _ z => nomatch z)) h0 hl (Rps.p a e r) hk
  | _, _, .dct0 h => .dct0 (e _ _ h (a.not h fun xs z => nomatch z) (fun _ z => nomatch z))
  | _, _, .exc hc h h1 h2 h3 h4 r => .exc hc (e _ _ h (a.not h fun xs z => nomatch z) (fun _ z => nomatch z)) h1 h2 h3 (e _ _ h4 (a.not h4 fun xs z => nomatch z) (fun _ z => nomatch z)) (Rp.p a e r)
  | _, _, .clo hz h hc => .clo hz (e _ _ h (a.not h fun xs z => nomatch z) (fun _ z => nomatch z)) (e _ _ hc (a.not hc fun xs z => nomatch z) LamX.codeO_ne)
theorem Rps.p (a : Avd Av P H) (e : ExtP P H H') : ∀ {vs : List V} {ds : List D}, Rps K cs Av H vs ds → Rps K cs Av H' vs ds
  | _, _, .nil => .nil
  | _, _, .cons r t => .cons (Rp.p a e r) (Rps.p a e t)
end
end
section
variable {K : PySem.W.Frag} {cs : List Addr} {Av Av' : Addr → Prop} {H H' H1 H2 H0 : Hp} {v : V} {vs : List V} {d : D} {ds : List D} {st : Sto} {σ : L2.St} {ρ : Rho} {r : RV} {a : Addr}
theorem AvOk.add (ok : AvOk cs Av H) {a : Addr} {xs : List V} (h : H a = some (.lst xs)) : AvOk cs (Ev.add Av a) H := ⟨fun b hb => .inl (ok.sub b hb), fun b hb => by
  rcases hb with hb | rfl
  · exact ok.lst b hb
  · exact ⟨xs, h⟩, ok.tab⟩
theorem AvOk.avd (ok : AvOk cs Av H) (h : ∀ a, Av a → Av' a) : Avd Av' (· ∈ cs) H := ⟨fun a h' => h a (ok.sub a h'), fun a h' => ok.lst a (ok.sub a h')⟩
theorem Ext.pc (e : Ext cs H H') : ExtP (· ∈ cs) H H' := fun b o x n t => e.k b o x n t
/-- a new list's content knows nothing of it -/
theorem Rps.new (r : Rps K cs Av H vs ds) (ok : AvOk cs Av H) {a : Addr} (h0 : H a = none) (e : Ext cs H H') : Rps K cs (Ev.add Av a) H' vs ds :=
  (r.av fun b hb => hb.imp id fun z => by rw [z]; exact h0).p (ok.avd fun b hb => .inl hb) e.pc
theorem Cl.new (cl : Cl K cs Av H st) (ok : AvOk cs Av H) {a : Addr} (h0 : H a = none) (e : Ext [] H H') : Cl K cs (Ev.add Av a) H' st := ⟨cl.len, cl.nd, fun n b ds h1 h2 => by
  obtain ⟨vs, q, r⟩ := cl.at_ n b ds h1 h2
  exact ⟨vs, e.k b _ q (by simp) (fun _ z => nomatch z), r.new ok h0 e.all⟩⟩
theorem Rp.w (h : Rp K cs Av H v d) : Rw K cs Av H v d := .inl h
theorem sqT_u {p b : Addr} {o u : HO} (h : SqT K H b vs) (hp : H p = some o) (hn : ∀ xs, o ≠ .tup xs) (hf : ∀ q x, o ≠ .frz q x) : SqT K (upd H p u) b vs := by
  rcases h with (h | ⟨q, h⟩) | h
  · exact .inl (.inl (by rw [upd_ne fun z => by subst z; rw [hp] at h; cases h; exact hn _ rfl]; exact h))
  · exact .inl (.inr ⟨q, by rw [upd_ne fun z => by subst z; rw [hp] at h; cases h; exact hf _ _ rfl]; exact h⟩)
  · exact .inr h
theorem sqD_u {p b : Addr} {o u : HO} (h : SqD K H b vs) (hp : H p = some o) (hf : ∀ q x, o ≠ .frz q x) : SqD K (upd H p u) b vs := by
  rcases h with ⟨q, h, d⟩ | h
  · exact .inl ⟨q, by rw [upd_ne fun z => by subst z; rw [hp] at h; cases h; exact hf _ _ rfl]; exact h, d⟩
  · exact .inr h
theorem sqL_u {p b : Addr} {o u : HO} (h : SqL K H b vs) (hp : H p = some o) (hn : ∀ xs, o ≠ .lst xs) (hf : ∀ q x, o ≠ .frz q x) : SqL K (upd H p u) b vs := by
  rcases h with (h | ⟨q, h⟩) | h
  · exact .inl (.inl (by rw [upd_ne fun z => by subst z; rw [hp] at h; cases h; exact hn _ rfl]; exact h))
  · exact .inl (.inr ⟨q, by rw [upd_ne fun z => by subst z; rw [hp] at h; cases h; exact hf _ _ rfl]; exact h⟩)
  · exact .inr h
mutual
/-- a dict that is yet empty is no part of the data -/
theorem Rp.u {p : Addr} {u : HO} (hp : H p = some (.dK [])) : ∀ {v : V} {d : D}, Rp K cs Av H v d → Rp K cs Av (upd H p u) v d
  | _, _, .non => .non
  | _, _, .bl b => .bl b
  | _, _, .int i => .int i
  | _, _, .str x => .str x
  | _, _, .lst na h r => .lst na (sqL_u h hp (fun xs z => nomatch z) fun _ _ z => nomatch z) (Rps.u hp r)
  | _, _, .tup h r => .tup (sqD_u h hp fun _ _ z => nomatch z) (Rps.u hp r)
  | _, _, .cell h => .cell h
  | _, _, .dct (ks := ks) (vs := vs) h h0 hl r hk => .dct (by
      rw [upd_ne fun z => ?_]
      · exact h
      · subst z
        rw [hp] at h
        have e : ([] : List (L2.Key × V)) = ks.zip vs := by injection h with h; injection h with h
        have l := congrArg List.length e
        rw [List.length_zip, r.length, hl, Nat.min_self] at l
        exact h0 (List.eq_nil_of_length_eq_zero (hl.trans l.symm))) h0 hl (Rps.u hp r) hk
  | _, _, .dct0 h => .dct0 (by
      rw [upd_ne fun z => ?_]
      · exact h
      · subst z
        rw [hp] at h
        cases h)
  | _, _, .exc hc h h1 h2 h3 h4 r => .exc hc (by rw [upd_ne fun z => by subst z; rw [hp] at h; cases h]; exact h) h1 h2 h3 (by rw [upd_ne fun z => by subst z; rw [hp] at h4; cases h4]; exact h4) (Rp.u hp r)
  | _, _, .clo hz h hc => .clo hz (by rw [upd_ne fun z => by subst z; rw [hp] at h; cases h]; exact h) (by rw [upd_ne fun z => by subst z; rw [hp] at hc; unfold LamX.CodeO at hc; cases hc]; exact hc)
theorem Rps.u {p : Addr} {u : HO} (hp : H p = some (.dK [])) : ∀ {vs : List V} {ds : List D}, Rps K cs Av H vs ds → Rps K cs Av (upd H p u) vs ds
  | _, _, .nil => .nil
  | _, _, .cons r t => .cons (Rp.u hp r) (Rps.u hp t)
end
/-- a new list, owned or not, is data -/
theorem RpR.rp (h : RpR K cs Av H1 H v r) (ok : ∀ a, Av a → ∃ o, H1 a = some o) : Rp K cs Av H v r.d := by
  cases r with
  | v d => exact h
  | o ds =>
    obtain ⟨a, vs, rfl, h0, h1, rs⟩ := h
    refine .lst (.inl fun z => ?_) (SqL.of h1) (rs.av fun b hb => .inl (.inl hb))
    obtain ⟨o, e⟩ := ok a z
    rw [h0] at e
    cases e
theorem RpR.ext (ok : AvOk cs Av H) (e : Ext cs H H') (old : ∀ a ∈ cs, ∃ o, H1 a = some o) (h : RpR K cs Av H1 H v r) : RpR K cs Av H1 H' v r := by
  cases r with
  | v d => exact Rp.ext ok e h
  | o ds =>
    obtain ⟨a, vs, rfl, h0, h1, rs⟩ := h
    refine ⟨a, vs, rfl, h0, e.k a _ h1 (fun z => ?_) (fun _ z => nomatch z), Rps.ext (ok.add h1) e rs⟩
    obtain ⟨o, q⟩ := old a z
    rw [h0] at q
    cases q
theorem RpR.old (e : Ext cs H2 H1) (ok : AvOk cs Av H1) (h : RpR K cs Av H1 H v r) : RpR K cs Av H2 H v r := by
  cases r with
  | v d => exact h
  | o ds =>
    obtain ⟨a, vs, rfl, h0, h1, rs⟩ := h
    refine ⟨a, vs, rfl, ?_, h1, rs⟩
    cases q : H2 a with
    | none => rfl
    | some o =>
      by_cases hc : a ∈ cs
      · obtain ⟨xs, z⟩ := ok.lst a (ok.sub a hc)
        rw [h0] at z
        cases z
      · by_cases ht : ∃ ps, o = .tbl ps
        · obtain ⟨ps, rfl⟩ := ht
          obtain ⟨p1, z⟩ := e.t a ps q
          rw [h0] at z; cases z
        · rw [e.k a o q hc fun ps z => ht ⟨ps, z⟩] at h0
          cases h0
theorem Rw.ext (ok : AvOk cs Av H) (e : Ext cs H H') (h : Rw K cs Av H v d) : Rw K cs Av H' v d := by
  rcases h with h | ⟨a, vs, ds, rfl, rfl, na, h, r⟩
  · exact .inl (h.ext ok e)
  · exact .inr ⟨a, vs, ds, rfl, rfl, na, sqL_ext h ok e na, r.ext ok e⟩
theorem AvOk.ext (ok : AvOk cs Av H) (e : Ext cs H H') (cl : Cl K cs Av H' st) : AvOk cs Av H' := ⟨ok.sub, fun a h => by
  by_cases hc : a ∈ cs
  · obtain ⟨n, hn, en⟩ := List.mem_iff_getElem.mp hc
    have h1 : cs[n]? = some a := by rw [List.getElem?_eq_getElem hn, en]
    have h2 : n < st.length := by rw [← cl.len]; exact hn
    obtain ⟨vs, q, _⟩ := cl.at_ n a _ h1 (List.getElem?_eq_getElem h2)
    exact ⟨vs, q⟩
  · obtain ⟨xs, q⟩ := ok.lst a h
    exact ⟨xs, e.k a _ q hc (fun _ z => nomatch z)⟩, e.tab ok.tab⟩
theorem Cl.ext (cl : Cl K cs Av H st) (ok : AvOk cs Av H) (e : Ext [] H H') : Cl K cs Av H' st := ⟨cl.len, cl.nd, fun n a ds h1 h2 => by
  obtain ⟨vs, q, r⟩ := cl.at_ n a ds h1 h2
  exact ⟨vs, e.k a _ q (by simp) (fun _ z => nomatch z), r.ext ok e.all⟩⟩
theorem SlotOk.ext (ok : AvOk cs Av H) (e : Ext cs H H') {x : Option (Option V)} {y : Option (Option RV)} (h : SlotOk K cs Av H x y) : SlotOk K cs Av H' x y := by
  match y, h with
  | none, _ => trivial
  | some none, _ => trivial
  | some (some (.v d)), ⟨x, h1, h2⟩ => exact ⟨x, h1, h2.ext ok e⟩
  | some (some (.o ds)), ⟨a, vs, h1, h2, h3, h4, h5⟩ => exact ⟨a, vs, h1, h2, h3, e.k a _ h4 h3 (fun _ z => nomatch z), h5.ext ok e⟩
theorem En.ext (en : En K cs Av H σ ρ) (ok : AvOk cs Av H) (e : Ext cs H H') : En K cs Av H' σ ρ := ⟨en.len, fun i => (en.at_ i).ext ok e⟩

mutual
theorem Rp.dp : ∀ {v : V} {d : D}, Rp K cs Av H v d → d.plain = true → Dp K H v d
  | _, _, .non, _ => .non
  | _, _, .bl b, _ => .bl b
  | _, _, .int i, _ => .int i
  | _, _, .str x, _ => .str x
  | _, _, .lst _ h r, p => .lst h (Rps.dp r (by simpa [PyData.plain] using p))
  | _, _, .tup h r, p => .tup h.t (Rps.dp r (by simpa [PyData.plain] using p))
  | _, _, .cell _, p => by simp [PyData.plain] at p
  | _, _, .dct .., p => by simp [PyData.plain] at p
  | _, _, .dct0 .., p => by simp [PyData.plain] at p
  | _, _, .exc .., p => by simp [PyData.plain] at p
  | _, _, .clo .., p => by simp [PyData.plain] at p
theorem Rps.dp : ∀ {vs : List V} {ds : List D}, Rps K cs Av H vs ds → PyData.plainAll ds = true → DpAll K H vs ds
  | _, _, .nil, _ => .nil
  | _, _, .cons r t, p => by
    simp only [PyData.plainAll, Bool.and_eq_true] at p
    exact .cons (Rp.dp r p.1) (Rps.dp t p.2)
end
theorem Rw.dp (h : Rw K cs Av H v d) (p : d.plain = true) : Dp K H v d := by
  rcases h with h | ⟨a, vs, ds, rfl, rfl, _, h, r⟩
  · exact h.dp p
  · exact .lst h (r.dp (by simpa [PyData.plain] using p))
theorem shal_plain {n : Nat} {d : D} (h : shal n d = true) : d.plain = true ∧ d.depth ≤ n := by
  simpa [shal] using h
theorem shalAll_plain {n : Nat} {d : List D} (h : shalAll n d = true) : PyData.plainAll d = true ∧ PyData.depthAll d ≤ n := by
  simpa [shalAll] using h
/-- what is at a list, a tuple -/
theorem Rw.list (h : Rw K cs Av H v (.list ds)) : ∃ a vs, v = .ref a ∧ SqL K H a vs ∧ Rps K cs Av H vs ds := by
  rcases h with h | ⟨a, vs, es, rfl, e, _, h, r⟩
  · cases h with
    | lst _ h r => exact ⟨_, _, rfl, h, r⟩
  · cases e
    exact ⟨a, vs, rfl, h, r⟩
theorem Rw.tuple (h : Rw K cs Av H v (.tuple ds)) : ∃ a vs, v = .ref a ∧ SqD K H a vs ∧ Rps K cs Av H vs ds := by
  rcases h with h | ⟨a, vs, es, rfl, e, _, h, r⟩
  · cases h with
    | tup h r => exact ⟨_, _, rfl, h, r⟩
  · cases e
/-- what a walk hands out: a pair may be any tuple -/
def RpX (K : PySem.W.Frag) (cs : List Addr) (Av : Addr → Prop) (H : Hp) (pr : Bool) (v : V) (d : D) : Prop :=
  Rp K cs Av H v d ∨ (pr = true ∧ ∃ a vs ds, v = .ref a ∧ d = .tuple ds ∧ SqT K H a vs ∧ Rps K cs Av H vs ds)
theorem RpX.ext {pr : Bool} (ok : AvOk cs Av H) (e : Ext cs H H') (h : RpX K cs Av H pr v d) : RpX K cs Av H' pr v d := by
  rcases h with h | ⟨hp, a, vs, ds, rfl, rfl, h, r⟩
  · exact .inl (h.ext ok e)
  · exact .inr ⟨hp, a, vs, ds, rfl, rfl, sqT_ext ok e h, r.ext ok e⟩
theorem RpX.to {pr pr' : Bool} (h : RpX K cs Av H pr v d) (i : pr = true → pr' = true) : RpX K cs Av H pr' v d := by
  rcases h with h | ⟨hp, h⟩
  · exact .inl h
  · exact .inr ⟨i hp, h⟩
theorem RpX.f (h : RpX K cs Av H false v d) : Rp K cs Av H v d := by
  rcases h with h | ⟨hp, _⟩
  · exact h
  · cases hp
theorem RpX.tuple {pr : Bool} (h : RpX K cs Av H pr v (.tuple ds)) : ∃ a vs, v = .ref a ∧ SqT K H a vs ∧ Rps K cs Av H vs ds := by
  rcases h with h | ⟨_, a, vs, es, rfl, e, h, r⟩
  · cases h with
    | tup h r => exact ⟨_, _, rfl, h.t, r⟩
  · cases e
    exact ⟨a, vs, rfl, h, r⟩
theorem Rw.int {i : Int} (h : Rw K cs Av H v (.int i)) : v = .int i := by
  rcases h with h | ⟨a, vs, es, rfl, e, _, h, r⟩
  · cases h; rfl
  · cases e
theorem Rw.str {i : Str} (h : Rw K cs Av H v (.str i)) : v = .str i := by
  rcases h with h | ⟨a, vs, es, rfl, e, _, h, r⟩
  · cases h; rfl
  · cases e
theorem Rw.bool {i : Bool} (h : Rw K cs Av H v (.bool i)) : v = .bl i := by
  rcases h with h | ⟨a, vs, es, rfl, e, _, h, r⟩
  · cases h; rfl
  · cases e
theorem Rw.none_iff (h : Rw K cs Av H v d) : decide (v = .non) = isNone d := by
  rcases h with h | ⟨a, vs, es, rfl, rfl, _, h, r⟩
  · cases h <;> rfl
  · rfl
end
end Ev

set_option Elab.async false
set_option linter.all false
set_option maxRecDepth 100000
set_option maxHeartbeats 4000000
/-! Tuples that are made: they are known to have no dict. -/
namespace Ev
variable [Zc]
open PySem PySem.Spec PyProof.Rows L2 HT
def tupO (its : List Value) : Obj := { cls := .type "tuple", data := .seq its.toArray }
section
variable {X : Cx} {pins : List (Addr × Obj)} {σ : L2.St} {H : Hp} {s : Shared}
theorem tup_laid {its : List Value} {xs : List V} {h' : Heap} {t' : Nat} {a : Addr} (I : Inv X pins σ H s) (k : ∀ b u, s.heap.get? b = some u → h'.get? b = some u) (hp : s.heap.objs.size ≤ a) (hg : h'.get? a = some (tupO its)) (r : Vals xs its) (z : xs.length ≤ sizeLine) :
    Inv X pins σ (upd H a (.frz (tupO its) (.tup xs))) { s with heap := h', toks := t' } := I.laid k hp ⟨hg, z, its, r, ⟨_, hg, rfl, _, rfl⟩⟩
/-- a new tuple -/
def nT (Q : VK) (H : Hp) (xs : List V) : Prop := ∀ p o, o.dict = none → H p = none → Q (.ref p) (upd H p (.frz o (.tup xs)))
def tTupD (t : TA) : TE := fun σ H Q => t σ H fun xs H1 => xs.length ≤ sizeLine ∧ nT Q H1 xs
theorem pe_tupD {es : List Expr} {t : TA} {pos : Pos} {x1} (h : PA X es t) : PE X (.Tuple es x1 pos) (tTupD t) := by
  refine ⟨fun pins s σ H Q I hq => ?_⟩
  refine wpAny_Tuple_spliced (thn (h.run pos pins s σ H _ I hq) fun us s1 ⟨xs, H1, I1, r, z, q⟩ => ⟨by rw [← r.length]; exact z, ?_⟩)
  have hf : H1 s1.heap.objs.size = none := I1.hok.fresh (Nat.le_refl _)
  exact ⟨.ref s1.heap.objs.size, _, tup_laid (t' := s1.toks) I1 (fun b u e => Heap.get?_push_of_some _ e) (Nat.le_refl _) (Heap.get?_push_size _ rfl) r z, rfl, q _ _ rfl hf⟩
def rCatD (K : PySem.W.Frag) : R2 := fun x y H Q => ∃ a b xs ys, x = .ref a ∧ y = .ref b ∧ SqT K H a xs ∧ SqT K H b ys ∧ xs.length + ys.length ≤ sizeLine ∧
  (xs = [] → Q (.ref b) H) ∧ (xs ≠ [] → ys = [] → Q (.ref a) H) ∧ (xs ≠ [] → ys ≠ [] → nT Q H (xs ++ ys))
theorem op_catD : OpR X (binaryOp .Add) (rCatD X.K) := by
  intro pins s σ H x y v u Q I rx ry h
  obtain ⟨a, b, xs, ys, rfl, rfl, ha, hb, hz, q0, q1, q2⟩ := h
  cases rx
  cases ry
  obtain ⟨its, r1, p1, _⟩ := I.tuple ha
  obtain ⟨its2, r2, p2, _⟩ := I.tuple hb
  by_cases hx : xs = []
  · subst hx
    cases r1
    exact cat_tup0 p1 p2 ⟨.ref b, H, I, rfl, q0 rfl⟩
  · refine HT.cat_tup p1 p2 (fun z => hx (r1.nil_iff.mp z)) (fun z => ⟨.ref a, H, I, rfl, q1 hx (r2.nil_iff.mp z)⟩) (fun z => ?_) (by rw [← r1.length, ← r2.length]; exact hz)
    exact ⟨.ref s.heap.objs.size, _, tup_laid (t' := s.toks) I (fun b ob q => Heap.get?_push_of_some _ q) (Nat.le_refl _) (Heap.get?_push_size _ rfl) (r1.append r2) (by rw [List.length_append]; exact hz), rfl, q2 hx (fun w => z (r2.nil_iff.mpr w)) _ _ rfl (I.hok.fresh (Nat.le_refl _))⟩
def rSlD (K : PySem.W.Frag) : V → Option Int → Option Int → Hp → VK → Prop := fun x lo hi H Q => ∃ a xs, x = .ref a ∧ SqT K H a xs ∧
  (HT.sIx xs.length 0 lo = 0 ∧ HT.sIx xs.length xs.length hi = xs.length → Q (.ref a) H) ∧ (¬ (HT.sIx xs.length 0 lo = 0 ∧ HT.sIx xs.length xs.length hi = xs.length) → nT Q H (cutV xs lo hi))
theorem sl_tupD : SlR X (rSlD X.K) := by
  intro pins s σ H x v vl vu lo hi sl Q I rx hs pl pu h
  obtain ⟨a, xs, rfl, hx, q1, q2⟩ := h
  cases rx
  obtain ⟨its, r, ht, hz⟩ := I.tuple hx
  have hlen : its.toArray.size = xs.length := by rw [List.size_toArray]; exact r.length.symm
  by_cases hw : HT.sIx xs.length 0 lo = 0 ∧ HT.sIx xs.length xs.length hi = xs.length
  · refine ⟨"tuple", _, PyProof.Rows.slot_tuple_getitem.lookup, ht.typeIs, ?_⟩
    exact getItem_tuple_whole ht hs pl pu (by rw [hlen]; exact hw) ⟨.ref a, H, I, rfl, q1 hw⟩
  · refine ⟨"tuple", _, PyProof.Rows.slot_tuple_getitem.lookup, ht.typeIs, ?_⟩
    refine HT.getItem_tuple_cut ht hs pl pu (by rw [hlen]; exact hw) ?_ (by rw [hlen]; exact hz)
    rw [hlen]
    exact ⟨.ref s.heap.objs.size, _, tup_laid (t' := s.toks) I (fun b ob q => Heap.get?_push_of_some _ q) (Nat.le_refl _) (Heap.get?_push_size _ (by rfl)) ((r.drop (HT.sIx xs.length 0 lo)).take (HT.sIx xs.length xs.length hi - HT.sIx xs.length 0 lo)) (Nat.le_trans (cutV_length xs lo hi) hz), rfl, q2 hw _ _ rfl (I.hok.fresh (Nat.le_refl _))⟩
def rRepD (K : PySem.W.Frag) : R2 := fun x y H Q => ∃ l k xs, x = .ref l ∧ y = .int k ∧ SqT K H l xs ∧ xs ≠ [] ∧ 2 ≤ k ∧ k ≤ 1000 ∧ xs.length ≤ 1000 ∧ nT Q H (List.replicate k.toNat xs).flatten
theorem op_repD : OpR X (binaryOp .Mult) (rRepD X.K) := by
  intro pins s σ H x y v u Q I rx ry h
  obtain ⟨l, k, xs, rfl, rfl, hT, hne, h1, h2, hz, q⟩ := h
  cases rx
  obtain ⟨t, rfl⟩ := ry
  obtain ⟨its, r, ⟨⟨cls, dd, data, sl⟩, ho, hc, n, hd⟩, hs⟩ := I.tuple hT
  simp only at hc hd
  subst hc hd
  have hle : its.length = xs.length := r.length.symm
  have hn : its ≠ [] := fun e => hne (by
    rw [e] at hle
    exact List.eq_nil_of_length_eq_zero hle.symm)
  have hi : its.toArray.isEmpty = false := by
    cases its with
    | nil => exact absurd rfl hn
    | cons a b => rfl
  have hsz0 : its.toArray.size = xs.length := by rw [List.size_toArray, hle]
  have hm : ((its.toArray.size : Nat) : Int) * k ≤ 1000000 := by
    rw [hsz0]
    have a1 : ((xs.length : Nat) : Int) * k ≤ 1000 * k := Int.mul_le_mul_of_nonneg_right (by omega) (by omega)
    omega
  have flen : (List.replicate k.toNat its).flatten.length ≤ sizeLine := by
    rw [PyProof.Rows.lm_len_rep_flat, hle, sizeLine_eq]
    have a1 : k.toNat * xs.length ≤ 1000 * 1000 := Nat.mul_le_mul (by omega) hz
    omega
  have c0 : (decide (k < -(2 ^ 63)) || decide (k ≥ 2 ^ 63)) = false := by
    rw [decide_eq_false (by omega), decide_eq_false (by omega)] <;> rfl
  have c1 : (its.toArray.isEmpty || k == 1) = false := by
    rw [hi, Bool.false_or]
    exact beq_eq_false_iff_ne.mpr (by omega)
  have c2 : (decide (k ≤ 0) || its.toArray.isEmpty) = false := by
    rw [hi, Bool.or_false]
    exact decide_eq_false (by omega)
  have c4 : Builtin.Tuple.tupleTooMany (((its.toArray.size : Nat) : Int) * k) = false := by
    unfold Builtin.Tuple.tupleTooMany
    rw [sizeLine_eq]
    exact decide_eq_false (by omega)
  refine wpAny_binaryOp_repeat_ref (T := "tuple") (U := "int") (by decide) ⟨_, ho, rfl⟩ (fun s' => typeIs_int s' k t) noFill_tuple_mul PySem.F.fills_int_mul PySem.F.slot_int_rmul repeat_tuple PySem.F.slot_int_index.lookup
    (call_meets PySem.F.slot_int_rmul (typeIs_int s k t) PySem.F.entry_int_rmul (PySem.F.args_int_rmul_2 _ _) (int_rmul_tuple k t l its.toArray n dd sl)
      ⟨ho, rfl, ⟨_, ho, rfl⟩, call_meets PySem.F.slot_tuple_mul ⟨_, ho, rfl⟩ PySem.F.entry_tuple_mul (PySem.F.args_tuple_mul_2 _ _) (tuple_mulW l its.toArray n dd sl k t c0 c1 c2 (by omega) c4 (by rw [size_rep, List.size_toArray]; exact flen)) ⟨ho, ?_⟩⟩)
  rw [size_rep]
  exact ⟨.ref s.heap.objs.size, _, tup_laid (t' := s.toks) I (fun b ob q => Heap.get?_push_of_some _ q) (Nat.le_refl _) (Heap.get?_push_size _ rfl) (r.rep k.toNat) (by rw [PyProof.Rows.lm_len_rep_flat, sizeLine_eq]; have a1 : k.toNat * xs.length ≤ 1000 * 1000 := Nat.mul_le_mul (by omega) hz; omega), rfl, q _ _ rfl (I.hok.fresh (Nat.le_refl _))⟩
theorem call_tupleD : CallR X (.type "tuple") (fun xs H Q => ∃ p ys, xs = [.ref p] ∧ ((SqL X.K H p ys ∧ nT Q H ys) ∨ (SqT X.K H p ys ∧ Q (.ref p) H))) := by
  intro pins s σ H xs us Q I r h
  obtain ⟨p, ys, rfl, h⟩ := h
  obtain ⟨u, rfl, rx⟩ := vals1 r
  cases rx
  rcases h with ⟨hq, q⟩ | ⟨hq, q⟩
  · obtain ⟨its, r', pl, hz⟩ := I.list hq
    have hlen := r'.length
    refine call_tuple_list pl.isList (fun h' kp => ?_) (by simp only [List.size_toArray] <;> omega)
    have I1 : Inv X pins σ H { s with heap := h' } := I.kept (t' := s.toks) kp
    have I2 : Inv X pins σ (upd H h'.objs.size (.frz (tupO its) (.tup ys))) { s with heap := h'.push (tupO its) } := tup_laid (s := { s with heap := h' }) (t' := s.toks) I1 (fun b o e => Heap.get?_push_of_some _ e) (Nat.le_refl _) (Heap.get?_push_size _ rfl) r' hz
    exact ⟨.ref h'.objs.size, _, I2, rfl, q _ _ rfl (I1.hok.fresh (Nat.le_refl _))⟩
  · obtain ⟨its, r', pl, hz⟩ := I.tuple hq
    exact call_tuple_same pl ⟨.ref p, H, I, rfl, q⟩
def tTupRgD (te : L2.St → Hp → (Int → Int → Hp → Prop) → Prop) : TE := fun σ H Q => te σ H fun a b H1 => RgOk a b ∧ nT Q H1 (rgV a b)
theorem pe_tupRgD {e : Expr} {te : L2.St → Hp → (Int → Int → Hp → Prop) → Prop} {p pos : Pos} (hc : X.calm = true) (hg : Gl X "tuple") (hm : X.mg "tuple" = none) (he : PRg X e te) (na : starEach [e] X.env = (false, eval e X.env) :: starEach [] X.env := by rfl) : PE X (.Call (.Name "tuple" p) [e] [] pos) (tTupRgD te) := by
  refine ⟨fun pins s σ H Q I h => ?_⟩
  refine Call_ (ld_blt I hg hm boot_tuple (PyProof.Rows.callWith_type1 (args_cons (thn (he pins s σ H _ I h) fun x s1 ⟨r, a, b, t, u, v, H1, ex, hr, I1, ok, q⟩ => args_nil ?_) na) na))
  subst ex
  obtain ⟨b1, b2, b3, b4, b5⟩ := ok
  refine call_tuple_range (n := (b - a).toNat) (I1.ok.hd hc) hr (small_one b1 b2 b3 b4) (rangeSize_nat a b) b5 fun h' tk acc hk hi => ?_
  have I2 : Inv X pins σ H1 { s1 with heap := h', toks := tk } := I1.kept hk
  have eA : acc.toList.toArray = acc := by simp
  have I3 : Inv X pins σ (upd H1 h'.objs.size (.frz (tupO acc.toList) (.tup (rgV a b)))) { s1 with heap := h'.push { cls := .type "tuple", data := .seq acc }, toks := tk } := tup_laid (s := { s1 with heap := h', toks := tk }) (t' := tk) (its := acc.toList) I2 (fun c o e => Heap.get?_push_of_some _ e) (Nat.le_refl _) (by unfold tupO; rw [eA]; exact Heap.get?_push_size _ rfl) (vals_rg hi) (by rw [rgV_length, sizeLine_eq]; omega)
  exact ⟨.ref h'.objs.size, _, I3, rfl, q _ _ rfl (I2.hok.fresh (Nat.le_refl _))⟩
end
section
variable {prog : Program} {w : World} {A : Around} {E : Value → Shared → Prop} {s : Shared}
theorem sum_tup {l : Addr} {xs : Array (Int × Tok)} {Q : Value → Shared → Prop} (hh : A.handled = none) (hl : s.heap.IsTuple l (intItems xs))
    (h : ∀ h' tk t', (∀ b o, s.heap.get? b = some o → h'.get? b = some o) → Q (.int (preSum (numAt xs) xs.size) t') { s with heap := h', toks := tk }) :
    wpAny (model prog w) A (call (.builtin "sum") [.ref l]) Q E s := by
  have hlt : l < s.heap.objs.size := by obtain ⟨_, e, _⟩ := hl; exact Heap.lt_size e
  refine call_sum_walkG (wpAny_pyIter_tuple hl ?_)
  refine ⟨_, _, _, _, _, _, numAt xs, rfl, Walks.tuple (A := A.in1) hh _ l (Nat.ne_of_lt hlt) (intItems xs), ⟨⟨_, Heap.get?_push_size _ rfl, rfl, rfl⟩, hl.push _⟩, (fun b hb => ?_), (fun _ _ => intItems_at), fun h' tk t' hk => ?_⟩
  · show b < (s.heap.push _).objs.size
    rw [Heap.size_push]
    rcases List.mem_cons.mp hb with rfl | hb
    · exact Nat.lt_succ_self _
    · rcases List.mem_cons.mp hb with rfl | hb
      · exact Nat.lt_succ_of_lt hlt
      · cases hb
  · have := h h' tk t' fun b o e => by
      refine hk b o (fun hm => ?_) (Heap.get?_push_of_some _ e)
      rcases List.mem_cons.mp hm with e1 | hm
      · exact absurd (e1 ▸ Heap.lt_size e) (Nat.lt_irrefl _)
      · cases hm
    simpa [intItems] using this
theorem sum_rawT {l : Addr} {its : List Value} {ns : List Int} {Q : Value → Shared → Prop} (hh : A.handled = none) (hl : s.heap.IsTuple l its.toArray) (hi : IntsAre its ns)
    (h : ∀ h' tk t', (∀ b o, s.heap.get? b = some o → h'.get? b = some o) → Q (.int ns.sum t') { s with heap := h', toks := tk }) : wpAny (model prog w) A (call (.builtin "sum") [.ref l]) Q E s := by
  obtain ⟨xs, e⟩ := hi.allInts.items
  have hn : numsOf (intItems xs).toList = ns := by rw [← e]; exact hi.numsOf
  rw [nums_intItems] at hn
  rw [e] at hl
  refine sum_tup hh hl fun h' tk t' hk => ?_
  have := h h' tk t' hk
  rw [preSum_eq, List.take_of_length_le (by simp), hn]; exact this
end
section
variable {X : Cx}
def rSumT (K : PySem.W.Frag) : List V → Hp → VK → Prop := fun vs H Q => ∃ (a : Addr) (ns : List Int), vs = [V.ref a] ∧ SqT K H a (ns.map V.int) ∧ Q (.int ns.sum) H
theorem cr_sumT (hc : X.calm = true) : CallR X (.builtin "sum") (rSumT X.K) := by
  intro pins s σ H vs us Q I r h
  obtain ⟨a, ns, rfl, hs, q⟩ := h
  obtain ⟨its, rv, hl, _⟩ := I.tuple hs
  rw [Vals.ref1 r]
  exact sum_rawT (I.ok.hd hc) hl rv.ints fun h' tk t' hk => ⟨.int _, H, I.kept hk, ⟨_, rfl⟩, q⟩
end
end Ev

set_option Elab.async false
set_option linter.all false
set_option maxRecDepth 100000
set_option maxHeartbeats 1000000
/-! Operators, comparisons, truth, by values. -/
namespace Ev
variable [Zc]
open PySem PySem.Spec PyProof.Rows L2
def opOf : Op2 → Operator
  | .add => .Add | .sub => .Sub | .mul => .Mult | .fdiv => .FloorDiv | .mod => .Mod | .pow => .Pow
def cmOf : Cm → CmpOp
  | .eq => .Eq | .ne => .NotEq | .lt => .Lt | .le => .LtE | .gt => .Gt | .ge => .GtE | .isin => .In | .notin => .NotIn | .is => .Is | .isnot => .IsNot
def rOp (K : PySem.W.Frag) (o : Op2) : R2 := fun x y H Q => ∃ cs Av d e z, AvOk cs Av H ∧ Rw K cs Av H x d ∧ Rw K cs Av H y e ∧ op2 o d e = some z ∧ ∀ v H', Ext [] H H' → RpR K cs Av H H' v z → Q v H'
theorem maxLen_le : maxLen ≤ sizeLine := by rw [sizeLine_eq]; decide
theorem log2_of {i : Int} (h : big i = true) : i.natAbs.log2 < 4000 := by
  unfold big at h
  have h1 := of_decide_eq_true h
  exact PySem.Flt.log2_lt_of (by decide) h1
theorem tuple_mul1 (l : Addr) (items : Array Value) (n : Nat) (sl : Array (Option Value)) (u : Tok) (dd : Option Addr) :
    Meets (Builtin.«tuple.__mul__» ⟨[.ref l, .int 1 u], []⟩) (fun _ R s => s.heap.get? l = some { cls := .type "tuple", dict := dd, data := .seq items n, slots := sl } ∧ R (.ok (.ret (Value.ref l))) s) :=
  .of_wp fun prog w A R s h => by
    obtain ⟨hp, g, d, tk, os⟩ := s
    obtain ⟨hl, h⟩ := h
    have f1 := AutoSeq1.idx_int
    have c0 : (decide ((1 : Int) < -(2 ^ 63)) || decide ((1 : Int) ≥ 2 ^ 63)) = false := by decide
    have c1 : (items.isEmpty || (1 : Int) == 1) = true := by simp
    wp_walk using wpAny_loadPart' hl
    repeat (first
      | (refine wpAny_ite_false (decide_eq_false (by rw [c0]; exact Bool.false_ne_true)) ?_; wp_walk using wpAny_loadPart' hl)
      | (refine wpAny_ite_true (decide_eq_true (by rw [c1])) ?_; wp_walk using wpAny_loadPart' hl))
    all_goals exact ⟨_, rfl, h⟩
section
variable {X : Cx}
theorem tup_new {K : PySem.W.Frag} {cs : List Addr} {Av : Addr → Prop} {H : Hp} {p : Addr} {vs : List V} {ds : List D} {o : Obj} (ok : AvOk cs Av H) (ho : o.dict = none) (hp : H p = none) (r : Rps K cs Av H vs ds) :
    Rp K cs Av (upd H p (.frz o (.tup vs))) (.ref p) (.tuple ds) := .tup (SqD.new ho) (r.ext ok (Ext.upd hp))
theorem lst_new {K : PySem.W.Frag} {cs : List Addr} {Av : Addr → Prop} {H : Hp} {p : Addr} {vs : List V} {ds : List D} (ok : AvOk cs Av H) (hp : H p = none) (r : Rps K cs Av H vs ds) :
    RpR K cs Av H (upd H p (.lst vs)) (.ref p) (.o ds) := ⟨p, vs, rfl, hp, upd_same, r.new ok hp (Ext.upd hp)⟩
theorem op2_ok (o : Op2) : OpR X (binaryOp (opOf o)) (rOp X.K o) := by
  intro pins s σ H x y v u Q I rx ry h
  obtain ⟨cs, Av, d, e, z, ok, hx, hy, hz, q⟩ := h
  have ml := maxLen_le
  unfold op2 at hz
  split at hz
  · cases hz
    obtain rfl := hx.int
    obtain rfl := hy.int
    exact op_add pins s σ H _ _ v u Q I rx ry ⟨_, _, rfl, rfl, q _ _ (Ext.refl _ _) (.int _)⟩
  · rename_i a b
    split at hz
    · rename_i hl
      cases hz
      obtain ⟨p, vs, rfl, sp, rp⟩ := hx.tuple
      obtain ⟨p', us, rfl, sp', rp'⟩ := hy.tuple
      refine op_catD pins s σ H _ _ v u Q I rx ry ⟨_, _, vs, us, rfl, rfl, sp.t, sp'.t, by rw [rp.length, rp'.length]; omega, ?_, ?_, ?_⟩
      · intro e
        subst e
        cases rp
        exact q _ _ (Ext.refl _ _) (.tup sp' rp')
      · intro _ e
        subst e
        cases rp'
        exact q _ _ (Ext.refl _ _) (by rw [List.append_nil]; exact .tup sp rp)
      · intro _ _ p o ho np
        exact q _ _ (Ext.upd np) (tup_new ok ho np (rp.append rp'))
    · cases hz
  · rename_i a b
    split at hz
    · rename_i hl
      cases hz
      obtain ⟨p, vs, rfl, sp, rp⟩ := hx.list
      obtain ⟨p', us, rfl, sp', rp'⟩ := hy.list
      obtain ⟨its, rv, ⟨⟨cls, dd, data, sls⟩, n, ho, hc, hdn, hdt⟩, hlen⟩ := I.list sp
      obtain ⟨its2, rv2, ⟨⟨cls2, dd2, data2, sls2⟩, n2, ho2, hc2, hdn2, hdt2⟩, hlen2⟩ := I.list sp'
      simp only at hc hdt hc2 hdt2
      subst hc hdt hc2 hdt2
      cases rx
      cases ry
      have l1 := rv.length
      have l2 := rv2.length
      have l3 := rp.length
      have l4 := rp'.length
      have ea : its.toArray ++ its2.toArray = (its ++ its2).toArray := by simp
      refine concat_meets ⟨_, ho, rfl⟩ ⟨_, ho2, rfl⟩ noFill_list_add seq_list_add PySem.F.slot_list_add PySem.F.entry_list_add (PySem.F.args_list_add_2 _ _) (list_addW p p' its.toArray its2.toArray n n2 dd dd2 sls sls2 (by simp; omega)) ⟨ho, ho2, ?_⟩
      rw [ea]
      exact ⟨.ref _, _, I.lnew (t' := s.toks) (rv.append rv2) (by rw [List.length_append]; omega), rfl, q _ _ (Ext.upd I.fresh) (lst_new ok I.fresh (rp.append rp'))⟩
    · cases hz
  · rename_i a b
    split at hz
    · rename_i hl
      cases hz
      obtain rfl := hx.str
      obtain rfl := hy.str
      exact op_add_str pins s σ H _ _ v u Q I rx ry ⟨_, _, rfl, rfl, by omega, q _ _ (Ext.refl _ _) (.str _)⟩
    · cases hz
  · cases hz
    obtain rfl := hx.int
    obtain rfl := hy.int
    exact op_sub pins s σ H _ _ v u Q I rx ry ⟨_, _, rfl, rfl, q _ _ (Ext.refl _ _) (.int _)⟩
  · split at hz
    · rename_i hl
      cases hz
      rw [Bool.and_eq_true] at hl
      obtain rfl := hx.int
      obtain rfl := hy.int
      have h1 := log2_of hl.1
      have h2 := log2_of hl.2
      exact op_mulW pins s σ H _ _ v u Q I rx ry ⟨_, _, rfl, rfl, by show _ + _ < _; omega, q _ _ (Ext.refl _ _) (.int _)⟩
    · cases hz
  · rename_i a j
    split at hz
    · rename_i hl
      cases hz
      simp only [Bool.and_eq_true, decide_eq_true_eq] at hl
      obtain ⟨⟨⟨h0, h1⟩, h2⟩, h3⟩ := hl
      obtain ⟨p, vs, rfl, sp, rp⟩ := hx.tuple
      obtain rfl := hy.int
      have l3 := rp.length
      have hne : vs ≠ [] := fun e => by
        subst e
        cases rp
        simp at h3
      by_cases hj : j = 1
      · subst hj
        cases rx
        obtain ⟨t, rfl⟩ := ry
        obtain ⟨its, rv, ⟨⟨cls, dd, data, sl⟩, ho, hc, n, hd⟩, hs⟩ := I.tuple sp.t
        simp only at hc hd
        subst hc hd
        refine wpAny_binaryOp_repeat_ref (T := "tuple") (U := "int") (by decide) ⟨_, ho, rfl⟩ (fun s' => typeIs_int s' 1 t) noFill_tuple_mul PySem.F.fills_int_mul PySem.F.slot_int_rmul repeat_tuple PySem.F.slot_int_index.lookup
          (call_meets PySem.F.slot_int_rmul (typeIs_int s 1 t) PySem.F.entry_int_rmul (PySem.F.args_int_rmul_2 _ _) (int_rmul_tuple 1 t p its.toArray n dd sl)
            ⟨ho, rfl, ⟨_, ho, rfl⟩, call_meets PySem.F.slot_tuple_mul ⟨_, ho, rfl⟩ PySem.F.entry_tuple_mul (PySem.F.args_tuple_mul_2 _ _) (tuple_mul1 p its.toArray n sl t dd) ⟨ho, ?_⟩⟩)
        exact ⟨.ref p, H, I, rfl, q _ _ (Ext.refl _ _) (show Rp _ _ _ _ _ _ from by simpa using Rp.tup sp rp)⟩
      · exact op_repD pins s σ H _ _ v u Q I rx ry ⟨p, j, vs, rfl, rfl, sp.t, hne, by omega, h1, by omega, fun p' o ho np => q _ _ (Ext.upd np) (tup_new ok ho np (rp.rep _))⟩
    · cases hz
  · split at hz
    · rename_i hl
      cases hz
      rw [Bool.and_eq_true, decide_eq_true_eq] at hl
      obtain rfl := hx.int
      obtain rfl := hy.int
      have h2 := log2_of hl.2
      exact op_fdivW pins s σ H _ _ v u Q I rx ry ⟨_, _, rfl, rfl, ⟨hl.1, by omega⟩, q _ _ (Ext.refl _ _) (.int _)⟩
    · cases hz
  · split at hz
    · rename_i hl
      cases hz
      rw [decide_eq_true_eq] at hl
      obtain rfl := hx.int
      obtain rfl := hy.int
      exact op_mod pins s σ H _ _ v u Q I rx ry ⟨_, _, rfl, rfl, hl, q _ _ (Ext.refl _ _) (.int _)⟩
    · cases hz
  · rename_i i j
    split at hz
    · rename_i hl
      cases hz
      simp only [Bool.and_eq_true, decide_eq_true_eq] at hl
      obtain ⟨⟨h0, h1⟩, h2⟩ := hl
      obtain rfl := hx.int
      obtain rfl := hy.int
      obtain ⟨t, rfl⟩ := rx
      obtain ⟨t', rfl⟩ := ry
      have hb : Builtin.Int.intBits i ≤ 1000 := by
        have h3 : i.natAbs.log2 < 1000 := PySem.Flt.log2_lt_of (by decide) h2
        unfold Builtin.Int.intBits
        split <;> omega
      refine pow_int h0 ?_ ⟨.int _, H, I.tok _, ⟨_, rfl⟩, q _ _ (Ext.refl _ _) (.int _)⟩
      have h4 : (Builtin.Int.intBits i : Int) * j ≤ 1000 * 1000 := by
        have a1 : (Builtin.Int.intBits i : Int) ≤ 1000 := by exact_mod_cast hb
        have a2 : (Builtin.Int.intBits i : Int) * j ≤ 1000 * j := Int.mul_le_mul_of_nonneg_right a1 h0
        omega
      omega
    · cases hz
  · cases hz

def rCm (K : PySem.W.Frag) (o : Cm) : R2 := fun x y H Q => ∃ cs Av d e z, AvOk cs Av H ∧ Rw K cs Av H x d ∧ Rw K cs Av H y e ∧ cmp2 o d e = some z ∧ ∀ v, RpR K cs Av H H v (.v z) → Q v H
theorem Inv.rd {pins : List (Addr × Obj)} {s : Shared} {σ : L2.St} {H : Hp} {cs : List Addr} {Av : Addr → Prop} {x : V} {v : Value} {d : D} (I : Inv X pins σ H s) (rx : RelV x v) (h : Rw X.K cs Av H x d) (p : d.plain = true) : ∃ as, Reads s.heap v d as :=
  Dp.reads I d x v (h.dp p) rx
theorem cm_ok (hu : X.A.units + 100 < cLine) (o : Cm) : OpR X (compareOp (cmOf o)) (rCm X.K o) := by
  intro pins s σ H x y v u Q I rx ry h
  obtain ⟨cs, Av, d, e, z, ok, hx, hy, hz, q⟩ := h
  unfold cmp2 at hz
  split at hz
  · rename_i a b
    split at hz
    · rename_i hl
      cases hz
      rw [Bool.and_eq_true] at hl
      obtain ⟨p1, d1⟩ := shal_plain hl.1
      obtain ⟨p2, d2⟩ := shal_plain hl.2
      obtain ⟨as, r1⟩ := Inv.rd I rx hx p1
      obtain ⟨bs, r2⟩ := Inv.rd I ry hy p2
      exact SeqAt.eq_plain r1 r2 p1 p2 (by omega) ⟨.bl _, H, I, rfl, q _ (.bl _)⟩
    · cases hz
  · rename_i a b
    split at hz
    · rename_i hl
      cases hz
      rw [Bool.and_eq_true] at hl
      obtain ⟨p1, d1⟩ := shal_plain hl.1
      obtain ⟨p2, d2⟩ := shal_plain hl.2
      obtain ⟨as, r1⟩ := Inv.rd I rx hx p1
      obtain ⟨bs, r2⟩ := Inv.rd I ry hy p2
      exact SeqAt.ne_plain r1 r2 p1 p2 (by omega) ⟨.bl _, H, I, rfl, q _ (.bl _)⟩
    · cases hz
  · cases hz
    obtain rfl := hx.int
    obtain rfl := hy.int
    exact op_lt pins s σ H _ _ v u Q I rx ry ⟨_, _, rfl, rfl, q _ (.bl _)⟩
  · cases hz
    obtain rfl := hx.int
    obtain rfl := hy.int
    exact op_le pins s σ H _ _ v u Q I rx ry ⟨_, _, rfl, rfl, q _ (.bl _)⟩
  · cases hz
    obtain rfl := hx.int
    obtain rfl := hy.int
    exact op_gt pins s σ H _ _ v u Q I rx ry ⟨_, _, rfl, rfl, q _ (.bl _)⟩
  · cases hz
    obtain rfl := hx.int
    obtain rfl := hy.int
    exact op_ge pins s σ H _ _ v u Q I rx ry ⟨_, _, rfl, rfl, q _ (.bl _)⟩
  · rename_i a b
    simp only [lt2] at hz
    split at hz
    · rename_i hl
      simp only [Option.map_some, Option.some.injEq] at hz
      subst hz
      simp only [Bool.and_eq_true] at hl
      obtain ⟨⟨h0, h1⟩, h2⟩ := hl
      obtain ⟨p1, d1⟩ := shal_plain h1
      obtain ⟨p2, d2⟩ := shal_plain h2
      obtain ⟨as, r1⟩ := Inv.rd I rx hx p1
      obtain ⟨bs, r2⟩ := Inv.rd I ry hy p2
      exact PySem.W.rcLt_alike _ _ X.A s v u as bs r1 r2 h0 (by simp) (by omega) X.prog X.w _ _ ⟨.bl _, H, I, rfl, q _ (.bl _)⟩
    · simp at hz
  · rename_i b
    split at hz
    · rename_i hl
      cases hz
      rw [Bool.and_eq_true] at hl
      obtain ⟨p1, d1⟩ := shal_plain hl.1
      obtain ⟨p2, d2⟩ := shal_plain hl.2
      obtain ⟨as, r1⟩ := Inv.rd I rx hx p1
      obtain ⟨bs, r2⟩ := Inv.rd I ry hy p2
      exact SeqAt.in_tuple_data r2 r1 (by simpa [PyData.plain] using p2) p1 (by omega) ⟨.bl _, H, I, rfl, q _ (.bl _)⟩
    · cases hz
  · rename_i b
    split at hz
    · rename_i hl
      cases hz
      rw [Bool.and_eq_true] at hl
      obtain ⟨p1, d1⟩ := shal_plain hl.1
      obtain ⟨p2, d2⟩ := shal_plain hl.2
      obtain ⟨as, r1⟩ := Inv.rd I rx hx p1
      obtain ⟨bs, r2⟩ := Inv.rd I ry hy p2
      exact SeqAt.in_list_data r2 r1 (by simpa [PyData.plain] using p2) p1 (by omega) ⟨.bl _, H, I, rfl, q _ (.bl _)⟩
    · cases hz
  · rename_i b
    split at hz
    · rename_i hl
      cases hz
      rw [Bool.and_eq_true] at hl
      obtain ⟨p1, d1⟩ := shal_plain hl.1
      obtain ⟨p2, d2⟩ := shal_plain hl.2
      obtain ⟨as, r1⟩ := Inv.rd I rx hx p1
      obtain ⟨bs, r2⟩ := Inv.rd I ry hy p2
      exact SeqAt.notIn_tuple_data r2 r1 (by simpa [PyData.plain] using p2) p1 (by omega) ⟨.bl _, H, I, rfl, q _ (.bl _)⟩
    · cases hz
  · rename_i b
    split at hz
    · rename_i hl
      cases hz
      rw [Bool.and_eq_true] at hl
      obtain ⟨p1, d1⟩ := shal_plain hl.1
      obtain ⟨p2, d2⟩ := shal_plain hl.2
      obtain ⟨as, r1⟩ := Inv.rd I rx hx p1
      obtain ⟨bs, r2⟩ := Inv.rd I ry hy p2
      exact SeqAt.notIn_list_data r2 r1 (by simpa [PyData.plain] using p2) p1 (by omega) ⟨.bl _, H, I, rfl, q _ (.bl _)⟩
    · cases hz
  · cases hz
    have hy' : y = .non := by
      rcases hy with hy | ⟨_, _, _, rfl, e, _⟩
      · cases hy; rfl
      · cases e
    subst hy'
    exact op_isN pins s σ H _ _ v u Q I rx ry ⟨rfl, by rw [hx.none_iff]; exact q _ (.bl _)⟩
  · cases hz
    have hy' : y = .non := by
      rcases hy with hy | ⟨_, _, _, rfl, e, _⟩
      · cases hy; rfl
      · cases e
    subst hy'
    exact op_notN pins s σ H _ _ v u Q I rx ry ⟨rfl, by rw [hx.none_iff]; exact q _ (.bl _)⟩
  · cases hz
    obtain rfl := hx.bool
    obtain rfl := hy.bool
    exact op_isBl pins s σ H _ _ v u Q I rx ry ⟨_, _, rfl, rfl, q _ (.bl _)⟩
  · cases hz
    obtain rfl := hx.bool
    obtain rfl := hy.bool
    exact op_notBl pins s σ H _ _ v u Q I rx ry ⟨_, _, rfl, rfl, q _ (.bl _)⟩
  · cases hz

/-- truth -/
theorem tru_of {K : PySem.W.Frag} {cs : List Addr} {Av : Addr → Prop} {H : Hp} {x : V} {d : D} {k : Bool} (hx : Rw K cs Av H x d) (h : truth d = some k) : TruV K x H k := by
  unfold truth at h
  split at h
  · cases h
    rcases hx with hx | ⟨_, _, _, rfl, e, _⟩
    · cases hx; rfl
    · cases e
  · cases h
    obtain rfl := hx.bool
    rfl
  · cases h
    obtain rfl := hx.int
    rfl
  · cases h
    obtain ⟨p, vs, rfl, sp, rp⟩ := hx.tuple
    refine .inr (.inl ⟨vs, sp.t, ?_⟩)
    cases rp <;> rfl
  · cases h
    obtain ⟨p, vs, rfl, sp, rp⟩ := hx.list
    refine .inl ⟨vs, sp, ?_⟩
    cases rp <;> rfl
  · cases h
end
end Ev

set_option Elab.async false
set_option linter.all false
set_option maxRecDepth 100000
set_option maxHeartbeats 1000000
/-! Built-in calls, subscripts, slices, by values; sorting as a plain function. -/
namespace Ev
variable [Zc]
open PySem PySem.Spec PyProof.Rows L2

/-! ### sorting -/
section
variable {α : Type} (le : α → α → Bool)
def insG (x : α) : List α → List α
  | [] => [x]
  | y :: r => if le x y then x :: y :: r else y :: insG x r
def sortG : List α → List α
  | [] => []
  | x :: r => insG le x (sortG r)
variable {le}
theorem insG_mem {x z : α} : ∀ {l : List α}, z ∈ insG le x l ↔ z = x ∨ z ∈ l
  | [] => by simp [insG]
  | y :: r => by
    unfold insG
    split
    · simp
    · simp only [List.mem_cons, insG_mem (l := r)]
      constructor
      · rintro (h | h | h) <;> simp [h]
      · rintro (h | h | h) <;> simp [h]
theorem insG_pair (h : PySem.W.TotalLe le) {x : α} : ∀ {l : List α}, l.Pairwise (fun a b => le a b = true) → (insG le x l).Pairwise (fun a b => le a b = true)
  | [], _ => by simp [insG]
  | y :: r, p => by
    obtain ⟨p1, p2⟩ := List.pairwise_cons.mp p
    unfold insG
    split
    · rename_i hx
      refine List.pairwise_cons.mpr ⟨fun z hz => ?_, p⟩
      rcases List.mem_cons.mp hz with rfl | hz
      · exact hx
      · exact h.trans _ _ _ hx (p1 z hz)
    · rename_i hx
      refine List.pairwise_cons.mpr ⟨fun z hz => ?_, insG_pair h p2⟩
      rcases insG_mem.mp hz with rfl | hz
      · exact (h.total y z).resolve_right hx
      · exact p1 z hz
theorem insG_filter (h : PySem.W.TotalLe le) {x c : α} : ∀ {l : List α}, l.Pairwise (fun a b => le a b = true) → (insG le x l).filter (PySem.W.sameRank le c) = (x :: l).filter (PySem.W.sameRank le c)
  | [], _ => rfl
  | y :: r, p => by
    obtain ⟨p1, p2⟩ := List.pairwise_cons.mp p
    unfold insG
    split
    · rfl
    · rename_i hx
      have ih := insG_filter h (x := x) (c := c) p2
      rw [List.filter_cons, ih, List.filter_cons, List.filter_cons, List.filter_cons]
      by_cases hy : PySem.W.sameRank le c y = true
      · have hxc : PySem.W.sameRank le c x = false := by
          cases q : PySem.W.sameRank le c x with
          | false => rfl
          | true =>
            unfold PySem.W.sameRank at hy q
            simp only [Bool.and_eq_true] at hy q
            exact absurd (h.trans _ _ _ q.2 hy.1) hx
        simp [hy, hxc]
      · simp [hy]
theorem sortG_pair (h : PySem.W.TotalLe le) : ∀ (l : List α), (sortG le l).Pairwise (fun a b => le a b = true)
  | [] => by simp [sortG]
  | x :: r => insG_pair h (sortG_pair h r)
theorem sortG_filter (h : PySem.W.TotalLe le) (c : α) : ∀ (l : List α), (sortG le l).filter (PySem.W.sameRank le c) = l.filter (PySem.W.sameRank le c)
  | [] => rfl
  | x :: r => by
    show (insG le x (sortG le r)).filter _ = _
    rw [insG_filter h (sortG_pair h r), List.filter_cons, List.filter_cons, sortG_filter h c r]
theorem sortG_merge (h : PySem.W.TotalLe le) (l : List α) : sortG le l = l.mergeSort le :=
  PySem.W.sort_unique h (sortG_pair h l) (fun c => sortG_filter h c l)
end
theorem insBy_eq (le : D → D → Bool) (x : D) : ∀ l : List D, insBy le x l = insG le x l
  | [] => rfl
  | y :: r => by unfold insBy insG; rw [insBy_eq le x r]
theorem sortBy_eq (le : D → D → Bool) : ∀ l : List D, sortBy le l = sortG le l
  | [] => rfl
  | x :: r => by unfold sortBy sortG; rw [sortBy_eq le r, insBy_eq]
theorem dLe_eq : dLe = PySem.W.dataLe false (fun d : D => d) := by
  funext a b
  rw [PySem.W.dataLe_eq]
  show dLe a b = !PySem.W.dataLt b a
  unfold dLe
  split
  · rename_i i j
    rw [PySem.W.dataLt_int]
    by_cases h : i ≤ j
    · simp [h, Int.not_lt.mpr h]
    · simp [h, Int.not_le.mp h]
  · rfl
theorem dLe_total : PySem.W.TotalLe dLe := by rw [dLe_eq]; exact PySem.W.sortLe_total _ _ _
theorem sort_data (l : List D) : sortBy dLe l = l.mergeSort (PySem.W.dataLe false (fun d : D => d)) := by
  rw [sortBy_eq, sortG_merge dLe_total, dLe_eq]
theorem alike_of {xs : List D} (h : allAlike xs = true) : PySem.W.AllAlike xs := by
  unfold allAlike at h
  intro d hd d' hd'
  exact List.all_eq_true.mp (List.all_eq_true.mp h d hd) d' hd'
theorem sortable_of {xs : List D} (h : sortable xs = true) : PySem.W.Sortable xs := by
  unfold sortable at h
  rcases Bool.or_eq_true _ _ |>.mp h with h | h
  · left
    intro d hd
    have := List.all_eq_true.mp h d hd
    split at this
    · exact ⟨_, _, rfl⟩
    · cases this
  · right
    intro d hd
    have := List.all_eq_true.mp h d hd
    split at this
    · exact ⟨by simp, by simp⟩
    · exact ⟨by simp, by simp⟩
    · cases this
theorem depth_mem {xs : List D} {d : D} : d ∈ xs → d.depth ≤ PyData.depthAll xs := by
  induction xs with
  | nil => intro h; cases h
  | cons x xs ih =>
    intro h
    simp only [PyData.depthAll]
    rcases List.mem_cons.mp h with rfl | h
    · omega
    · have := ih h; omega
theorem plain_mem {xs : List D} {d : D} (p : PyData.plainAll xs = true) : d ∈ xs → d.plain = true := by
  induction xs with
  | nil => intro h; cases h
  | cons x xs ih =>
    intro h
    simp only [PyData.plainAll, Bool.and_eq_true] at p
    rcases List.mem_cons.mp h with rfl | h
    · exact p.1
    · exact ih p.2 h

/-! ### calls -/
def bltV : Bl → Value
  | .len => .builtin "len" | .abs => .builtin "abs" | .max2 => .builtin "max" | .min2 => .builtin "min" | .int => .type "int" | .str => .type "str" | .repr => .builtin "repr"
  | .tuple => .type "tuple" | .list => .type "list" | .sorted => .builtin "sorted" | .sum => .builtin "sum" | .all => .builtin "all" | .any => .builtin "any" | .max1 => .builtin "max" | .min1 => .builtin "min"
inductive Rws (K : PySem.W.Frag) (cs : List Addr) (Av : Addr → Prop) (H : Hp) : List V → List D → Prop
  | nil : Rws K cs Av H [] []
  | cons {v : V} {vs : List V} {d : D} {ds : List D} : Rw K cs Av H v d → Rws K cs Av H vs ds → Rws K cs Av H (v :: vs) (d :: ds)
theorem Rws.one {K : PySem.W.Frag} {cs : List Addr} {Av : Addr → Prop} {H : Hp} {vs : List V} {d : D} (h : Rws K cs Av H vs [d]) : ∃ v, vs = [v] ∧ Rw K cs Av H v d := by
  cases h with
  | cons r t => cases t; exact ⟨_, rfl, r⟩
theorem Rws.two {K : PySem.W.Frag} {cs : List Addr} {Av : Addr → Prop} {H : Hp} {vs : List V} {d e : D} (h : Rws K cs Av H vs [d, e]) : ∃ v u, vs = [v, u] ∧ Rw K cs Av H v d ∧ Rw K cs Av H u e := by
  cases h with
  | cons r t =>
    obtain ⟨u, rfl, q⟩ := t.one
    exact ⟨_, _, rfl, r, q⟩
def rBl (K : PySem.W.Frag) (b : Bl) : List V → Hp → VK → Prop := fun vs H Q => ∃ cs Av ds z, AvOk cs Av H ∧ Rws K cs Av H vs ds ∧ blt b ds = some z ∧ ∀ v H', Ext [] H H' → RpR K cs Av H H' v z → Q v H'
section
variable {X : Cx}
theorem rps_out {K : PySem.W.Frag} {cs : List Addr} {Av : Addr → Prop} {H : Hp} : ∀ {out : List Value} {ds : List D}, PySem.W.EachIs (fun (v : Value) (d : D) => ∃ x, RelV x v ∧ Rp K cs Av H x d) out ds → ∃ xs, Vals xs out ∧ Rps K cs Av H xs ds
  | _, _, .nil => ⟨[], .nil, .nil⟩
  | _, _, .cons ⟨x, h1, h2⟩ t => by
    obtain ⟨xs, h3, h4⟩ := rps_out t
    exact ⟨x :: xs, .cons h1 h3, .cons h2 h4⟩
theorem rps_in {K : PySem.W.Frag} {cs : List Addr} {Av : Addr → Prop} {H : Hp} : ∀ {xs : List V} {us : List Value} {ds : List D}, Vals xs us → Rps K cs Av H xs ds → PySem.W.EachIs (fun (v : Value) (d : D) => ∃ x, RelV x v ∧ Rp K cs Av H x d) us ds
  | _, _, _, .nil, .nil => .nil
  | _, _, _, .cons r t, .cons q s => .cons ⟨_, r, q⟩ (rps_in t s)
theorem each_reads {pins : List (Addr × Obj)} {s : Shared} {σ : L2.St} {H : Hp} {cs : List Addr} {Av : Addr → Prop} (I : Inv X pins σ H s) : ∀ {us : List Value} {ds : List D}, PySem.W.EachIs (fun (v : Value) (d : D) => ∃ x, RelV x v ∧ Rp X.K cs Av H x d) us ds → PyData.plainAll ds = true → PySem.W.EachIs (fun v d => ∃ as, Reads s.heap v d as) us ds
  | _, _, .nil, _ => .nil
  | _, _, .cons ⟨x, h1, h2⟩ t, p => by
    simp only [PyData.plainAll, Bool.and_eq_true] at p
    exact .cons (Dp.reads I _ _ _ (h2.dp p.1) h1) (each_reads I t p.2)
mutual
theorem noDict_of : ∀ {d : D}, d.plain = true → d.hasDict = false
  | .none, _ => rfl
  | .bool _, _ => rfl
  | .int _, _ => rfl
  | .str _, _ => rfl
  | .list xs, h => by
    simp only [PyData.hasDict]
    exact noDicts_of (by simpa [PyData.plain] using h)
  | .tuple xs, h => by
    simp only [PyData.hasDict]
    exact noDicts_of (by simpa [PyData.plain] using h)
  | .dict _, h => by simp [PyData.plain] at h
theorem noDicts_of : ∀ {ds : List D}, PyData.plainAll ds = true → PyData.hasDictAll ds = false
  | [], _ => rfl
  | x :: xs, h => by
    simp only [PyData.plainAll, Bool.and_eq_true] at h
    simp only [PyData.hasDictAll, noDict_of h.1, noDicts_of h.2, Bool.or_self]
end
theorem bl_repr (hg : X.A.guards = some []) (hu : X.A.units + 100 < cLine) {pins : List (Addr × Obj)} {s : Shared} {σ : L2.St} {H : Hp} {x : V} {v : Value} {d : D} {Q : VK} (I : Inv X pins σ H s) (rx : RelV x v) (hd : Dp X.K H x d) (hs : d.showable = true) (hp : d.plain = true) (hdp : d.depth ≤ 20) (hz : d.shown.length ≤ maxLen)
    (q : Q (.str d.shown) H) : wpAny (model X.prog X.w) X.A (call (.builtin "repr") [v]) (EP X pins σ Q) X.xe s := by
  have ml := maxLen_le
  have nd : d.hasDict = true → sysModules ∉ ([] : List Addr) := fun _ h => by cases h
  cases hd with
  | non =>
    cases rx
    exact PySem.P.repr_of_none ⟨.str _, H, I.tok _, ⟨_, rfl⟩, q⟩
  | bl b =>
    cases rx
    exact PySem.P.repr_of_bool ⟨.str _, H, I.tok _, ⟨_, rfl⟩, by cases b <;> exact q⟩
  | int i =>
    obtain ⟨t, rfl⟩ := rx
    exact PySem.P.repr_of_int (by simpa [PyData.showable] using hs) ⟨.str _, H, I.tok _, ⟨_, rfl⟩, q⟩
  | str y =>
    obtain ⟨t, rfl⟩ := rx
    exact PySem.P.repr_of_str ⟨.str _, H, I.tok _, ⟨_, rfl⟩, q⟩ (by simp only [PyData.shown] at hz; omega)
  | lst h1 h2 =>
    obtain ⟨as, r⟩ := Dp.reads I _ _ v (.lst h1 h2) rx
    cases rx
    have hnd := noDict_of hp
    exact repr_of_reads' r hs (fun e => by rw [hnd] at e; cases e) hg (by omega) (fun _ _ e => e) (fun h' u tk hk => ⟨.str _, H, I.kept hk, ⟨_, rfl⟩, q⟩) (by omega)
  | tup h1 h2 =>
    obtain ⟨as, r⟩ := Dp.reads I _ _ v (.tup h1 h2) rx
    cases rx
    have hnd := noDict_of hp
    exact repr_of_reads' r hs (fun e => by rw [hnd] at e; cases e) hg (by omega) (fun _ _ e => e) (fun h' u tk hk => ⟨.str _, H, I.kept hk, ⟨_, rfl⟩, q⟩) (by omega)
theorem scal_reads {h : Heap} {K : PySem.W.Frag} {cs : List Addr} {Av : Addr → Prop} {H : Hp} {x : V} {v : Value} {d : D} (hs : scal d = true) (rp : Rp K cs Av H x d) (r : RelV x v) : Reads h v d [] := by
  cases d <;> first | (cases hs; done) | (cases rp)
  case none => cases r; exact .none
  case bool => cases r; exact .bool _
  case int => obtain ⟨t, rfl⟩ := r; exact .int _ _
  case str => obtain ⟨t, rfl⟩ := r; exact .str _ _
theorem kv_reads {P : Program} {w : World} {h : Heap} {K : PySem.W.Frag} {cs : List Addr} {Av : Addr → Prop} {H : Hp} : ∀ {es : List DictEntry} {kvs : List (L2.Key × Value)} {ks : List L2.Key} {vs : List V} {ds : List D}, Pairs (mixKind P w) es kvs → KV (ks.zip vs) kvs → ks.length = ds.length → Rps K cs Av H vs ds → (ds.all scal) = true →
    ReadsAll h (es.map (·.key)) (((ks.zip ds).map fun p => (kD p.1, p.2)).map (·.1)) [] ∧ ReadsAll h (es.map (·.val)) (((ks.zip ds).map fun p => (kD p.1, p.2)).map (·.2)) []
  | es, kvs, [], vs, ds, hp, hk, hl, rs, _ => by
    cases ds with
    | cons => simp at hl
    | nil =>
      have e : kvs = [] := by
        have hk : KV ([] : List (L2.Key × V)) kvs := by simpa using hk
        cases hk; rfl
      subst e
      cases hp
      exact ⟨.nil, .nil⟩
  | es, kvs, k :: ks, vs, ds, hp, hk, hl, rs, hsc => by
    cases rs with
    | nil => simp at hl
    | cons r rs =>
      rename_i v vs d ds
      have hk : KV ((k, v) :: ks.zip vs) kvs := hk
      cases hk with
      | cons q qs =>
        cases hp with
        | cons h1 h2 h3 =>
          rw [List.all_cons, Bool.and_eq_true] at hsc
          obtain ⟨a, b⟩ := kv_reads (h := h) (ks := ks) h3 qs (by simpa using hl) rs hsc.2
          rename_i kv _ e _
          have hkey : Reads h e.key (kD k) [] := by
            have h1 : keyIs kv.1 e.key = true := h1
            rw [← q.1] at h1
            rcases keyIs_shape h1 with ⟨i, t, e1, e2⟩ | ⟨x, t, e1, e2⟩
            · have e1 : k = .inl i := e1
              rw [e1, e2]; exact .int _ _
            · have e1 : k = .inr x := e1
              rw [e1, e2]; exact .str _ _
          have hval : Reads h e.val d [] := scal_reads hsc.1 r (by rw [h2]; exact q.2)
          exact ⟨ReadsAll.cons hkey a, ReadsAll.cons hval b⟩
mutual
theorem Rp.readsF {pins : List (Addr × Obj)} {s : Shared} {σ : L2.St} {H : Hp} {cs : List Addr} {Av : Addr → Prop} (I : Inv X pins σ H s) : ∀ {x : V} {v : Value} {d : D}, Rp X.K cs Av H x d → RelV x v → lfree d = true → ∃ as, Reads s.heap v d as ∧ sysModules ∉ as
  | _, _, _, .non, r, _ => by cases r; exact ⟨_, .none, by simp⟩
  | _, _, _, .bl b, r, _ => by cases r; exact ⟨_, .bool b, by simp⟩
  | _, _, _, .int i, r, _ => by obtain ⟨t, rfl⟩ := r; exact ⟨_, .int i t, by simp⟩
  | _, _, _, .str x, r, _ => by obtain ⟨t, rfl⟩ := r; exact ⟨_, .str x t, by simp⟩
  | _, _, _, .lst _ _ _, _, hl => by simp [lfree] at hl
  | _, _, _, .tup h rs, r, hl => by
    cases r
    obtain ⟨its, rv, ⟨o, ho, hc, n, hd⟩, _⟩ := I.tuple h.t
    obtain ⟨as, ra, hn⟩ := Rps.readsF I rs rv (by simpa only [lfree] using hl)
    exact ⟨_, .tuple ho hc hd (by simpa using ra), hn⟩
  | _, _, _, .cell _, _, hl => by simp [lfree, kOf] at hl
  | _, _, _, .dct (ks := ks) (vs := vs) (ds := ds) hH h0 hlen rs hk, r, hl => by
    cases r
    obtain ⟨hz, hsys, kvs, hkv, o, es, ep, hg, hex, hdt, hks, hps, hnd⟩ := I.hok _ _ hH
    subst hk
    have hsc : ds.all scal = true := by
      simp only [lfree, List.all_map, List.all_eq_true] at hl
      rw [List.all_eq_true]
      intro d hd
      obtain ⟨i, hi, rfl⟩ := List.getElem_of_mem hd
      have hi' : i < (ks.zip ds).length := by rw [List.length_zip]; omega
      have := hl (ks.zip ds)[i] (List.getElem_mem hi')
      simp only [Function.comp, List.getElem_zip, Bool.and_eq_true] at this
      exact this.2
    obtain ⟨a, b⟩ := kv_reads (h := s.heap) hps hkv hlen rs hsc
    exact ⟨_, .dict hg hex.1 hdt a b, by simpa using fun e => by rw [← e] at hsys; simp at hsys⟩
  | _, _, _, .dct0 hH, r, _ => by
    cases r
    obtain ⟨hz, hsys, xs, hp, o, es, ep, hg, hex, hdt, he, hnd⟩ := I.hok _ _ hH
    cases hp
    have he : es.toList = [] := he
    exact ⟨_, .dict hg hex.1 hdt (by rw [he]; exact .nil) (by rw [he]; exact .nil), by simpa using fun e => by rw [← e] at hsys; simp at hsys⟩
  | _, _, _, .exc .., _, hl => by simp [lfree, kOf] at hl
  | _, _, _, .clo .., _, hl => by simp [lfree, kOf] at hl
theorem Rps.readsF {pins : List (Addr × Obj)} {s : Shared} {σ : L2.St} {H : Hp} {cs : List Addr} {Av : Addr → Prop} (I : Inv X pins σ H s) : ∀ {xs : List V} {vs : List Value} {ds : List D}, Rps X.K cs Av H xs ds → Vals xs vs → lfrees ds = true → ∃ as, ReadsAll s.heap vs ds as ∧ sysModules ∉ as
  | _, _, _, .nil, r, _ => by cases r; exact ⟨_, .nil, by simp⟩
  | _, _, _, .cons h hs, r, hl => by
    cases r with
    | cons r rs =>
      simp only [lfrees, Bool.and_eq_true] at hl
      obtain ⟨as, a, n⟩ := Rp.readsF I h r hl.1
      obtain ⟨bs, b, m⟩ := Rps.readsF I hs rs hl.2
      exact ⟨_, .cons a b, by simp [n, m]⟩
end
theorem bl_reprF (hg : X.A.guards = some []) (hu : X.A.units + 100 < cLine) {pins : List (Addr × Obj)} {s : Shared} {σ : L2.St} {H : Hp} {x : V} {v : Value} {d : D} {Q : VK} {cs : List Addr} {Av : Addr → Prop} (I : Inv X pins σ H s) (rx : RelV x v) (hd : Rp X.K cs Av H x d) (hs : d.showable = true) (hl : lfree d = true) (hdp : d.depth ≤ 20) (hz : d.shown.length ≤ maxLen)
    (q : Q (.str d.shown) H) : wpAny (model X.prog X.w) X.A (call (.builtin "repr") [v]) (EP X pins σ Q) X.xe s := by
  have ml := maxLen_le
  obtain ⟨as, r, n⟩ := Rp.readsF I hd rx hl
  cases hd with
  | non =>
    cases rx
    exact PySem.P.repr_of_none ⟨.str _, H, I.tok _, ⟨_, rfl⟩, q⟩
  | bl b =>
    cases rx
    exact PySem.P.repr_of_bool ⟨.str _, H, I.tok _, ⟨_, rfl⟩, by cases b <;> exact q⟩
  | int i =>
    obtain ⟨t, rfl⟩ := rx
    exact PySem.P.repr_of_int (by simpa [PyData.showable] using hs) ⟨.str _, H, I.tok _, ⟨_, rfl⟩, q⟩
  | str y =>
    obtain ⟨t, rfl⟩ := rx
    exact PySem.P.repr_of_str ⟨.str _, H, I.tok _, ⟨_, rfl⟩, q⟩ (by simp only [PyData.shown] at hz; omega)
  | lst h1 h2 h3 => simp [lfree] at hl
  | tup h1 h2 =>
    cases rx
    exact repr_of_reads' r hs (fun _ => n) hg (by omega) (fun _ _ e => e) (fun h' u tk hk => ⟨.str _, H, I.kept hk, ⟨_, rfl⟩, q⟩) (by omega)
  | exc => simp [lfree, kOf] at hl
  | clo => simp [lfree, kOf] at hl
  | cell h => simp [lfree, kOf] at hl
  | dct h1 h2 h3 h4 h5 =>
    cases rx
    exact repr_of_reads' r hs (fun _ => n) hg (by omega) (fun _ _ e => e) (fun h' u tk hk => ⟨.str _, H, I.kept hk, ⟨_, rfl⟩, q⟩) (by omega)
  | dct0 h1 =>
    cases rx
    exact repr_of_reads' r hs (fun _ => n) hg (by omega) (fun _ _ e => e) (fun h' u tk hk => ⟨.str _, H, I.kept hk, ⟨_, rfl⟩, q⟩) (by omega)
theorem collect_any {prog : Program} {w : World} {A : Around} {E : Value → Shared → Prop} {s : Shared} {Q : List Value → Shared → Prop} (it : Addr) {T : String} {o : Obj} {items : Array Value} {n : Nat} (hT : T = "list" ∨ T = "tuple") (ho : s.heap.get? it = some o) (hc : o.cls = .type T) (hd : o.data = .seq items n) (hsz : items.size ≤ sizeLine)
    (hQ : Q items.toList { s with heap := (s.heap.push { cls := .type "list", data := .seq ([] : List Value).toArray }).update s.heap.objs.size (Obj.mapSeq (· ++ items)) }) : wpAny (model prog w) A (collect (.ref it)) Q E s := by
  unfold collect
  refine wpAny_bind (wpAny_runValue (codeAny_builtin PySem.F.entry_proto_collect ?_)); rw [Around.under_plainId PySem.F.plain_proto_collect _]
  refine wpAny_bind (wpAny_newObj_type (wpAny_pure ⟨plainId_quiet PySem.F.plain_list_iadd _, codeAny_builtin PySem.F.entry_list_iadd ?_⟩))
  rw [Around.under_plainId PySem.F.plain_list_iadd _]; show wpAny _ A.in1 (Builtin.List.listExtendWith (.ref s.heap.objs.size) (.ref it) (.ref s.heap.objs.size)) _ _ _
  have a1 : (s.heap.push { cls := .type "list", data := .seq ([] : List Value).toArray }).get? s.heap.objs.size = some { cls := .type "list", data := .seq #[] 0 } := Heap.get?_push_size _ rfl
  have a2 := Heap.get?_update_self (Obj.mapSeq (· ++ items)) a1 rfl
  refine wpAny_mono (wpAny_extend_seq (hsz := hsz) (A := A) (R := fun r s' => r = .ok (.ret (.ref s.heap.objs.size)) ∧ s' = { s with heap := (s.heap.push { cls := .type "list", data := .seq ([] : List Value).toArray }).update s.heap.objs.size (Obj.mapSeq (· ++ items)) }) (s := { s with heap := s.heap.push { cls := .type "list", data := .seq ([] : List Value).toArray } }) _ it _ 0 hT a1 (Heap.get?_push_of_some _ ho) hc hd ⟨rfl, rfl⟩) (fun fin s' h => ?_) (fun e s' h => ?_)
  · have fin2 : wpAny (model prog w) A (load s.heap.objs.size >>= fun (o : Obj) => match o.data with | Data.seq xs _ => pure xs.toList | _ => unsupported "internal:collect") Q E { s with heap := (s.heap.push { cls := .type "list", data := .seq ([] : List Value).toArray }).update s.heap.objs.size (Obj.mapSeq (· ++ items)) } := by
      refine wpAny_bind (wpAny_load a2 (wpAny_pure ?_))
      show Q ((#[] : Array Value) ++ items).toList _; rw [show ((#[] : Array Value) ++ items).toList = items.toList by simp]
      exact hQ
    cases fin with
    | done f =>
      obtain ⟨e, rfl⟩ := h; cases e
      exact fin2
    | again c =>
      refine ⟨h.1, codeAny_mono h.2 fun r s2 q => ?_⟩
      obtain ⟨rfl, rfl⟩ := q
      exact fin2
  · have z := h.1
    simp at z
theorem sorted_seq {prog : Program} {w : World} {A : Around} {E : Value → Shared → Prop} {s : Shared} {R : Value → D → Prop} {T : String} {o : Obj} {vs : List Value} {n : Nat} {ds : List D} {it : Addr} {Q : Value → Shared → Prop} (hT : T = "list" ∨ T = "tuple") (ho : s.heap.get? it = some o) (hc : o.cls = .type T) (hd : o.data = .seq vs.toArray n)
    (e : PySem.W.EachIs R vs ds) (er : PySem.W.EachIs (fun v d => ∃ as, Reads s.heap v d as) vs ds) (hal : PySem.W.AllAlike ds) (hk : PySem.W.Sortable ds) (hL : ds.length ≤ sizeLine) (hu : ∀ b, b ∈ ds → A.units + 2 + b.depth < cLine)
    (h : ∀ (h' : Heap) (out : List Value) (a c : Nat), (∀ b o, s.heap.get? b = some o → h'.get? b = some o) → s.heap.objs.size ≤ a → h'.get? a = some (seqObj "list" out.toArray c) → out.length = ds.length → PySem.W.EachIs R out (ds.mergeSort (PySem.W.dataLe false fun d : D => d)) → Q (.ref a) { s with heap := h' }) :
    wpAny (model prog w) A (call (.builtin "sorted") [.ref it]) Q E s := by
  refine Calls.call_function_entry kind_sorted plain_sorted entry_sorted (args_sorted1 _) ?_; unfold Builtin.«sorted»
  refine wpAny_bind (m := checkCount "sorted" 1 1 _) (wpAny_pure (wpAny_bind (collect_any it hT ho hc hd ?_ ?_)))
  · rw [List.size_toArray, e.length]; exact hL
  refine wpAny_bind (wpAny_newList ?_ (by show vs.length ≤ _; rw [e.length]; exact hL))
  generalize hh1 : (s.heap.push { cls := .type "list", data := .seq ([] : List Value).toArray }).update s.heap.objs.size (Obj.mapSeq (· ++ vs.toArray)) = h1
  have k1 : ∀ b u, s.heap.get? b = some u → h1.get? b = some u := fun b u q => by
    rw [← hh1]; exact (Heap.get?_update_other _ _ (Nat.ne_of_gt (Heap.lt_size q))).trans (Heap.get?_push_of_some _ q)
  have hsz : s.heap.objs.size ≤ h1.objs.size := by rw [← hh1, Heap.size_update, Heap.size_push]; omega
  have hat : (h1.push (seqObj "list" vs.toArray 0)).get? h1.objs.size = some (seqObj "list" vs.toArray 0) := Heap.get?_push_size _ rfl
  have kk : ∀ b u, s.heap.get? b = some u → (h1.push (seqObj "list" vs.toArray 0)).get? b = some u := fun b u q => Heap.get?_push_of_some _ (k1 b u q)
  have ks : ∀ b u, s.heap.get? b = some u → (PySem.W.sortingHeap (h1.push (seqObj "list" vs.toArray 0)) h1.objs.size vs).get? b = some u := fun b u q => PySem.W.sortingHeap_old (Nat.ne_of_lt (Nat.lt_of_lt_of_le (Heap.lt_size q) hsz)) (kk b u q)
  refine wpAny_bind (wpAny_holding (wpAny_call_entry_kw slot_list_sort ⟨_, hat, rfl⟩ entry_list_sort ?body (args_list_sort _)))
  case body =>
    have er' : PySem.W.EachIs (fun v d => ∃ as, Reads (PySem.W.sortingHeap (h1.push (seqObj "list" vs.toArray 0)) h1.objs.size vs) v d as) vs ds := er.mono fun _ _ ⟨as, r⟩ => ⟨as, PyProof.Rows.Reads.keeps ks r⟩
    have S := PySem.W.SortsAt.data (prog := prog) (w := w) (A := A.in1.in1) (s := { s with heap := PySem.W.sortingHeap (h1.push (seqObj "list" vs.toArray 0)) h1.objs.size vs }) er' hal hk (fun d hd => by have := hu d hd; show A.units + 1 + 1 + d.depth < cLine; omega)
    refine PySem.W.list_sort_vals (s := { s with heap := h1.push (seqObj "list" vs.toArray 0) }) hat S (by rw [e.length]; exact hL) ?_
    refine ⟨_, rfl, wpAny_pure ⟨_, rfl, ?_⟩⟩
    obtain ⟨c, hc'⟩ := sortedHeap_at (out := (PySem.W.sortVals (PySem.W.dataKind (PySem.W.sortingHeap (h1.push (seqObj "list" vs.toArray 0)) h1.objs.size vs) ds) false vs vs).toArray) hat
    refine h _ _ _ c (fun b u q => ?_) hsz hc' (by rw [PySem.W.sortVals_length false rfl]; exact e.length) ?_
    · rw [sortedHeap_old (Nat.ne_of_lt (Nat.lt_of_lt_of_le (Heap.lt_size q) hsz)) (Nat.lt_of_lt_of_le (Heap.lt_size q) (by rw [Heap.size_push]; omega))]
      exact kk b u q
    · have := PySem.W.sortVals_data (enc := fun d : D => d) (h' := PySem.W.sortingHeap (h1.push (seqObj "list" vs.toArray 0)) h1.objs.size vs) false e (by simpa using er') (by simpa using hal)
      simpa using this
theorem bl_sorted (hu : X.A.units + 100 < cLine) {pins : List (Addr × Obj)} {s : Shared} {σ : L2.St} {H : Hp} {cs : List Addr} {Av : Addr → Prop} {p : Addr} {vs : List V} {xs : List D} {Q : VK} (I : Inv X pins σ H s) (ok : AvOk cs Av H)
    (sp : SqL X.K H p vs ∨ SqT X.K H p vs) (rp : Rps X.K cs Av H vs xs) (h1 : allAlike xs = true) (h2 : sortable xs = true) (h3 : shalAll 19 xs = true) (h4 : xs.length ≤ maxLen)
    (q : ∀ v H', Ext [] H H' → RpR X.K cs Av H H' v (.o (sortBy dLe xs)) → Q v H') : wpAny (model X.prog X.w) X.A (call (.builtin "sorted") [.ref p]) (EP X pins σ Q) X.xe s := by
  have main : ∀ (its : List Value) (T : String) (o : Obj) (n : Nat), (T = "list" ∨ T = "tuple") → Vals vs its → s.heap.get? p = some o → o.cls = .type T → o.data = .seq its.toArray n → wpAny (model X.prog X.w) X.A (call (.builtin "sorted") [.ref p]) (EP X pins σ Q) X.xe s := by
    intro its T o n hT rv ho hc hd
    obtain ⟨p1, d1⟩ := shalAll_plain h3
    have e := rps_in rv rp
    have er := each_reads I e p1
    have ml := maxLen_le
    refine sorted_seq hT ho hc hd e er (alike_of h1) (sortable_of h2) (by omega) (fun b hb => by have := depth_mem hb; omega) fun h' out a c hk ha hat hlen hR => ?_
    rw [← sort_data] at hR
    obtain ⟨ys, hv, hr⟩ := rps_out hR
    have np : H a = none := I.hok.fresh ha
    refine ⟨.ref a, upd H a (.lst ys), ?_, rfl, q _ _ (Ext.upd np) (lst_new ok np hr)⟩
    exact I.laid (t' := s.toks) hk ha ⟨by rw [hv.length, hlen]; omega, out, c, hv, hat⟩
  rcases sp with sp | sp
  · obtain ⟨its, rv, ⟨⟨cls, dd, data, sls⟩, n, ho, hc, hdn, hdt⟩, hlen⟩ := I.list sp
    exact main its "list" _ n (.inl rfl) rv ho hc hdt
  · obtain ⟨its, rv, ⟨⟨cls, dd, data, sl⟩, ho, hc, n, hd⟩, hs⟩ := I.tuple sp
    exact main its "tuple" _ n (.inr rfl) rv ho hc hd
theorem bl_ok (hc : X.calm = true) (hg : X.A.guards = some []) (hu : X.A.units + 100 < cLine) (b : Bl) : CallR X (bltV b) (rBl X.K b) := by
  intro pins s σ H vs us Q I rv h
  obtain ⟨cs, Av, ds, z, ok, hr, hz, q⟩ := h
  have ml := maxLen_le
  unfold blt at hz
  split at hz
  · cases hz
    obtain ⟨v, rfl, r⟩ := hr.one
    obtain ⟨p, ws, rfl, sp', rp⟩ := r.tuple
    have sp := sp'.t
    exact call_len_seq pins s σ H _ us Q I rv ⟨p, ws, rfl, .inr sp, q _ _ (Ext.refl _ _) (by rw [rp.length]; exact .int _)⟩
  · cases hz
    obtain ⟨v, rfl, r⟩ := hr.one
    obtain ⟨p, ws, rfl, sp, rp⟩ := r.list
    exact call_len_seq pins s σ H _ us Q I rv ⟨p, ws, rfl, .inl sp, q _ _ (Ext.refl _ _) (by rw [rp.length]; exact .int _)⟩
  · split at hz
    · rename_i hl
      cases hz
      obtain ⟨v, rfl, r⟩ := hr.one
      obtain rfl := r.str
      exact call_len_str pins s σ H _ us Q I rv ⟨_, rfl, by omega, q _ _ (Ext.refl _ _) (.int _)⟩
    · cases hz
  · cases hz
    obtain ⟨v, rfl, r⟩ := hr.one
    obtain rfl := r.int
    exact call_abs pins s σ H _ us Q I rv ⟨_, rfl, q _ _ (Ext.refl _ _) (.int _)⟩
  · cases hz
    obtain ⟨v, u, rfl, r, r'⟩ := hr.two
    obtain rfl := r.int
    obtain rfl := r'.int
    exact call_max2 hc pins s σ H _ us Q I rv ⟨_, _, rfl, q _ _ (Ext.refl _ _) (.int _)⟩
  · cases hz
    obtain ⟨v, u, rfl, r, r'⟩ := hr.two
    obtain rfl := r.int
    obtain rfl := r'.int
    exact call_min2 hc pins s σ H _ us Q I rv ⟨_, _, rfl, q _ _ (Ext.refl _ _) (.int _)⟩
  · cases hz
    obtain ⟨v, rfl, r⟩ := hr.one
    obtain rfl := r.int
    exact call_int1 pins s σ H _ us Q I rv (.inl ⟨_, rfl, q _ _ (Ext.refl _ _) (.int _)⟩)
  · cases hz
    obtain ⟨v, rfl, r⟩ := hr.one
    obtain rfl := r.bool
    exact call_int1 pins s σ H _ us Q I rv (.inr ⟨_, rfl, q _ _ (Ext.refl _ _) (.int _)⟩)
  · split at hz
    · rename_i hl
      cases hz
      obtain ⟨v, rfl, r⟩ := hr.one
      obtain rfl := r.int
      have := PySem.Flt.log2_lt_of (by decide) hl
      exact call_str_int pins s σ H _ us Q I rv ⟨_, rfl, by omega, q _ _ (Ext.refl _ _) (.str _)⟩
    · cases hz
  · split at hz
    · rename_i d hl
      cases hz
      simp only [Bool.and_eq_true, decide_eq_true_eq] at hl
      obtain ⟨⟨h1, h2⟩, h3⟩ := hl
      obtain ⟨v, rfl, r⟩ := hr.one
      unfold rpOk at h1
      rw [Bool.or_eq_true, Bool.and_eq_true, decide_eq_true_eq] at h1
      cases rv with
      | cons rx rt =>
        cases rt
        rcases h1 with h1 | ⟨h1, hdp⟩
        case inr =>
          have r' : Rp X.K cs Av H v d := by
            rcases r with r | ⟨a, vs, es, rfl, rfl, _⟩
            · exact r
            · simp [lfree] at h1
          exact bl_reprF hg hu I rx r' h2 h1 hdp h3 (q _ _ (Ext.refl _ _) (.str _))
        obtain ⟨p1, d1⟩ := shal_plain h1
        exact bl_repr hg hu I rx (r.dp p1) h2 p1 d1 h3 (q _ _ (Ext.refl _ _) (.str _))
    · cases hz
  · cases hz
    obtain ⟨v, rfl, r⟩ := hr.one
    obtain ⟨p, ws, rfl, sp, rp⟩ := r.list
    exact call_tupleD pins s σ H _ us Q I rv ⟨p, ws, rfl, .inl ⟨sp, fun l o ho nl => q _ _ (Ext.upd nl) (tup_new ok ho nl rp)⟩⟩
  · cases hz
    obtain ⟨v, rfl, r⟩ := hr.one
    obtain ⟨p, ws, rfl, sp, rp⟩ := r.tuple
    exact call_tupleD pins s σ H _ us Q I rv ⟨p, ws, rfl, .inr ⟨sp.t, q _ _ (Ext.refl _ _) (Rp.tup sp rp)⟩⟩
  · cases hz
    obtain ⟨v, rfl, r⟩ := hr.one
    obtain ⟨p, ws, rfl, sp, rp⟩ := r.list
    exact call_list_of pins s σ H _ us Q I rv ⟨p, ws, rfl, .inl sp, fun l nl => q _ _ (Ext.upd nl) (lst_new ok nl rp)⟩
  · cases hz
    obtain ⟨v, rfl, r⟩ := hr.one
    obtain ⟨p, ws, rfl, sp', rp⟩ := r.tuple
    have sp := sp'.t
    exact call_list_of pins s σ H _ us Q I rv ⟨p, ws, rfl, .inr sp, fun l nl => q _ _ (Ext.upd nl) (lst_new ok nl rp)⟩
  · split at hz
    · rename_i xs hl
      cases hz
      simp only [Bool.and_eq_true, decide_eq_true_eq] at hl
      obtain ⟨⟨⟨h1, h2⟩, h3⟩, h4⟩ := hl
      obtain ⟨v, rfl, r⟩ := hr.one
      obtain ⟨p, ws, rfl, sp, rp⟩ := r.list
      cases rv with
      | cons rx rt =>
        cases rt
        cases rx
        exact bl_sorted hu I ok (.inl sp) rp h1 h2 h3 h4 q
    · cases hz
  · split at hz
    · rename_i xs hl
      cases hz
      simp only [Bool.and_eq_true, decide_eq_true_eq] at hl
      obtain ⟨⟨⟨h1, h2⟩, h3⟩, h4⟩ := hl
      obtain ⟨v, rfl, r⟩ := hr.one
      obtain ⟨p, ws, rfl, sp', rp⟩ := r.tuple
      have sp := sp'.t
      cases rv with
      | cons rx rt =>
        cases rt
        cases rx
        exact bl_sorted hu I ok (.inr sp) rp h1 h2 h3 h4 q
    · cases hz
  · simp only [Option.map_eq_some_iff] at hz
    obtain ⟨ns, e, rfl⟩ := hz
    obtain ⟨v, rfl, r⟩ := hr.one
    obtain ⟨p, ws, rfl, sp, rp⟩ := r.list
    obtain ⟨e1, e2⟩ := rp.ints_of e
    subst e1
    exact cr_sum hc pins s σ H _ us Q I rv ⟨p, ns, rfl, sp, q _ _ (Ext.refl _ _) (.int _)⟩
  · simp only [Option.map_eq_some_iff] at hz
    obtain ⟨ns, e, rfl⟩ := hz
    obtain ⟨v, rfl, r⟩ := hr.one
    obtain ⟨p, ws, rfl, sp, rp⟩ := r.tuple
    obtain ⟨e1, e2⟩ := rp.ints_of e
    subst e1
    exact cr_sumT hc pins s σ H _ us Q I rv ⟨p, ns, rfl, sp.t, q _ _ (Ext.refl _ _) (.int _)⟩
  · simp only [Option.map_eq_some_iff] at hz
    obtain ⟨ns, e, rfl⟩ := hz
    obtain ⟨v, rfl, r⟩ := hr.one
    obtain ⟨p, ws, rfl, sp, rp⟩ := r.list
    obtain ⟨e1, e2⟩ := rp.bools_of e
    subst e1
    exact cr_all hc pins s σ H _ us Q I rv ⟨p, ns, rfl, sp, q _ _ (Ext.refl _ _) (.bl _)⟩
  · simp only [Option.map_eq_some_iff] at hz
    obtain ⟨ns, e, rfl⟩ := hz
    obtain ⟨v, rfl, r⟩ := hr.one
    obtain ⟨p, ws, rfl, sp, rp⟩ := r.list
    obtain ⟨e1, e2⟩ := rp.bools_of e
    subst e1
    exact cr_any hc pins s σ H _ us Q I rv ⟨p, ns, rfl, sp, q _ _ (Ext.refl _ _) (.bl _)⟩
  · cases hz
end
end Ev

set_option Elab.async false
set_option linter.all false
set_option maxRecDepth 100000
set_option maxHeartbeats 1000000
/-! Reversed tuples; defs that are called where no repr runs. -/
namespace Ev
variable [Zc]
open PySem PySem.Spec PyProof.Rows L2 HT

/-! ### t[::-1] -/
section
variable {prog : Program} {w : World} {A : Around} {E : Value → Shared → Prop} {s : Shared}
theorem rev_items (n : Nat) (xs : Array Value) (hn : xs.size = n) : ((List.range n).filterMap fun (k : Nat) => xs[(((n : Int) - 1) + (k : Int) * (-1)).toNat]?) = xs.toList.reverse := by
  have e : ∀ l : List Nat, (∀ k ∈ l, k < n) → l.filterMap (fun (k : Nat) => xs[(((n : Int) - 1) + (k : Int) * (-1)).toNat]?) = l.filterMap (fun k => (xs.toList.reverse)[k]?) := by
    intro l
    induction l with
    | nil => intro _; rfl
    | cons k l ih =>
      intro hl
      have hk' := hl k List.mem_cons_self
      have e1 : (((n : Int) - 1) + (k : Int) * (-1)).toNat = n - 1 - k := by omega
      rw [List.filterMap_cons, List.filterMap_cons, ih (fun j hj => hl j (List.mem_cons_of_mem _ hj)), e1, List.getElem?_reverse (by rw [Array.length_toList]; omega), Array.getElem?_toList, Array.length_toList, hn]
  rw [e _ fun k hk => List.mem_range.mp hk]
  have hl : n = xs.toList.reverse.length := by rw [List.length_reverse, Array.length_toList, hn]
  rw [hl]
  generalize xs.toList.reverse = l
  induction l with
  | nil => rfl
  | cons a l ih =>
    rw [List.length_cons, List.range_succ_eq_map, List.filterMap_cons]
    simp only [List.getElem?_cons_zero]
    rw [List.filterMap_map]
    simpa [Function.comp_def] using ih
theorem getItem_tup_rev {t sl : Addr} {items : Array Value} {vl vu vs : Value} {Q : Value → Shared → Prop} (ht : IsTup s.heap t items) (hs : s.heap.IsSliceOf sl vl vu vs) (pl : IsPart vl none) (pu : IsPart vu none) (ps : IsPart vs (some (-1))) (hsz : items.size ≤ sizeLine)
    (h : Q (.ref s.heap.objs.size) { s with heap := s.heap.push { cls := .type "tuple", data := .seq items.toList.reverse.toArray } }) : wpAny (model prog w) A (getItem (.ref t) (.ref sl)) Q E s := by
  obtain ⟨os, hos, hcs, hds⟩ := id hs
  have hTs : s.TypeIs (.ref sl) "slice" := ⟨os, hos, hcs⟩
  unfold getItem
  try with_reducible refine wpAny_holding ?_
  refine wpAny_bind (wpAny_sequenceKey ht.typeIs (by decide) ?_); refine wpAny_bind (wpAny_callSpecial?_slot (name := Str.ofString "__getitem__") ht.typeIs PyProof.Rows.slot_tuple_getitem (wpAny_call_entry PyProof.Rows.slot_tuple_getitem ht.typeIs entry_tuple_getitem ?_ (args_tuple_getitem _ _)))
  show wpAny _ _ (Builtin.Tuple.tupleItemsOf (.ref t) >>= _) _ _ s
  refine wpAny_bind (tupleItemsOf_ ht (wpAny_bind (wpAny_typeOf hTs ?_)))
  rw [if_pos (by decide)]
  have hap : ∀ {R : Int × Int × Nat → Shared → Prop}, R (((items.size : Nat) : Int) - 1, -1, items.size) s → wpAny (model prog w) A.in1 (Builtin.Slice.sliceApplied (.ref sl) (pure ((items.size : Nat) : Int))) R (fun _ _ => False) s := fun {R} q => by
    unfold Builtin.Slice.sliceApplied Builtin.Slice.sliceFields
    refine wpAny_bind (wpAny_bind (wpAny_field hos hds (x := vl) rfl (wpAny_bind (wpAny_field hos hds (x := vu) rfl (wpAny_bind (wpAny_field hos hds (x := vs) rfl (wpAny_pure (wpAny_bind (slicePart_ ps ?_)))))))))
    show wpAny _ _ (if ((-1 : Int) == 0) = true then _ else _) _ _ s
    rw [if_neg (by decide)]
    refine wpAny_bind (slicePart_ pl (wpAny_bind (slicePart_ pu (wpAny_bind (wpAny_pure ?_)))))
    have e1 : Builtin.Slice.sliceAdjust none none (-1) ((items.size : Nat) : Int) = (((items.size : Nat) : Int) - 1, -1) := rfl
    have e2 : Builtin.Slice.slicePlaces (((items.size : Nat) : Int) - 1) (-1) (-1) = items.size := by
      unfold Builtin.Slice.slicePlaces
      rw [if_neg (by decide)]
      split
      · have : (-(-1) : Int) = 1 := by decide
        rw [this, Int.ediv_one]
        omega
      · omega
    show wpAny _ _ (match Builtin.Slice.sliceAdjust none none (-1) ((items.size : Nat) : Int) with | (lo, hi) => pure (lo, (-1 : Int), Builtin.Slice.slicePlaces lo hi (-1))) _ _ s
    rw [e1]
    show wpAny _ _ (pure ((((items.size : Nat) : Int) - 1), (-1 : Int), Builtin.Slice.slicePlaces (((items.size : Nat) : Int) - 1) (-1) (-1))) _ _ s
    rw [e2]
    exact wpAny_pure q
  refine wpAny_bind (wpAny_mono (hap (R := fun r s' => r = (((items.size : Nat) : Int) - 1, -1, items.size) ∧ s' = s) ⟨rfl, rfl⟩) (fun r s' hr => ?_) fun _ _ z => z.elim)
  obtain ⟨rfl, rfl⟩ := hr
  have hno : ¬ (((((items.size : Nat) : Int) - 1) == 0 && (-1 : Int) == 1 && items.size == items.size) = true) := by simp
  show wpAny _ _ (if ((((items.size : Nat) : Int) - 1) == 0 && (-1 : Int) == 1 && items.size == items.size) = true then _ else _) _ _ s'
  rw [if_neg hno]
  show wpAny _ _ (Builtin.Tuple.tupleExact ((List.range items.size).filterMap fun (k : Nat) => items[(((items.size : Nat) : Int) - 1 + (k : Int) * (-1)).toNat]?).toArray >>= _) _ _ s'
  rw [rev_items _ _ rfl]
  exact wpAny_bind (wpAny_newObj_type (wpAny_pure ⟨_, rfl, wpAny_pure h⟩) (by show items.toList.reverse.toArray.size ≤ sizeLine; simp; exact hsz))
end
section
variable {X : Cx}
def tRv (K : PySem.W.Frag) (te : TE) : TE := fun σ H Q => te σ H fun x H1 => ∃ a xs, x = .ref a ∧ ((SqT K H1 a xs ∧ nT Q H1 xs.reverse) ∨ (SqL K H1 a xs ∧ ∀ p, H1 p = none → Q (.ref p) (upd H1 p (.lst xs.reverse))))
theorem pe_rv {e : Expr} {te : TE} {k : Nat} {p1 p2 p3 pos : Pos} (he : PE X e te) : PE X (.Subscript e (.Slice none none (some (.UnaryOp .USub (.Constant (.int 1) k p1) p2)) p3) pos) (tRv X.K te) := by
  refine ⟨fun pins s σ H Q I h => Subscript_ (thn (he.run pins s σ H _ I h) fun v s1 ⟨x, H1, I1, r1, a, xs, ex, q⟩ => ?_)⟩
  subst ex
  cases r1
  have hst : PO X (some (.UnaryOp .USub (.Constant (.int 1) k p1) p2)) (tPart (tUn (rU fun i => .int (-i)) (tC (.int 1)))) := po_some (pe_un un_neg pe_int)
  refine wpAny_Slice (thn (po_none.run pins s1 σ H1 (fun o H2 => o = none ∧ H2 = H1) I1 ⟨rfl, rfl⟩) fun vl s2 ⟨l, H2, I2, pl, el, e2⟩ => ?_)
  subst el e2
  refine thn (po_none.run pins s2 σ H2 (fun o H3 => o = none ∧ H3 = H2) I2 ⟨rfl, rfl⟩) fun vu s3 ⟨u, H3, I3, pu, eu, e3⟩ => ?_
  subst eu e3
  refine thn (hst.run pins s3 σ H3 (fun o H4 => o = some (-1) ∧ H4 = H3) I3 ⟨1, rfl, -1, rfl, rfl, rfl⟩) fun vs s4 ⟨o, H4, I4, ps, eo, e4⟩ => ?_
  subst eo e4
  have I5 : Inv X pins σ H4 { s4 with heap := s4.heap.push { cls := .type "slice", data := .fields #[vl, vu, vs] } } := I4.kept (t' := s4.toks) fun b ob z => Heap.get?_push_of_some _ z
  show wpAny (model X.prog X.w) X.A (subscriptTail e (.Slice none none (some (.UnaryOp .USub (.Constant (.int 1) k p1) p2)) p3) (.ref a) (.ref s4.heap.objs.size)) (EP X pins σ Q) X.xe { s4 with heap := s4.heap.push { cls := .type "slice", data := .fields #[vl, vu, vs] } }
  rcases q with ⟨hx, q⟩ | ⟨hx, q⟩
  · obtain ⟨its, r, ht, hz⟩ := I5.tuple hx
    have hlen := r.length
    refine tail_any (ops := [.ref a, .ref s4.heap.objs.size]) ht.typeIs (PyProof.Rows.slot_tuple_getitem.lookup) ?_ (by with_unfolding_all rfl)
    refine getItem_tup_rev ht (Heap.IsSliceOf.new _ vl vu vs) pl pu ps (by rw [List.size_toArray]; omega) ?_
    exact ⟨.ref _, _, tup_laid (t' := s4.toks) I5 (fun b ob z => Heap.get?_push_of_some _ z) (Nat.le_refl _) (Heap.get?_push_size _ rfl) r.reverse (by rw [List.length_reverse]; exact hz), rfl, q _ _ rfl (I5.hok.fresh (Nat.le_refl _))⟩
  · obtain ⟨its, r, ht, hz⟩ := I5.list hx
    have hlen := r.length
    refine tail_any (ops := [.ref a, .ref s4.heap.objs.size]) ht.isList.typeIs (PySem.slot_list_getitem.lookup) ?_ (by with_unfolding_all rfl)
    refine wpAny_getItem_list_slice ht.isList (Heap.IsSliceOf.new _ vl vu vs) pl pu ps (by decide) ?_ (by rw [List.size_toArray]; omega)
    rw [PySem.W.krv_pick]
    refine ⟨.ref _, _, I5.laid (t' := s4.toks) (o := .lst xs.reverse) (fun b ob z => Heap.get?_push_of_some _ z) (Nat.le_refl _) ?_, rfl, q _ (I5.hok.fresh (Nat.le_refl _))⟩
    exact ⟨by rw [List.length_reverse]; exact hz, _, 0, r.reverse, Heap.get?_push_size _ rfl⟩
end

/-! ### defs, called where no repr runs -/
structure FnG (P : Program) (w : World) (K : PySem.W.Frag) (mg : Str → Option Value) (base : Heap) (k : Nat) (f : Addr) (fd : FuncData) (ps : List Str) (sp : Sp) : Prop where
  len : ∀ vs H Q E, sp vs H Q E → vs.length = ps.length
  run : ∀ (A : Around) (outer : List Env) (s : Shared) (H : Hp) (args : Args) (us : List Value) (vs : List V) (Q : VK) (E : XK), Room k A → A.guards = some [] → Env0 P w K mg base A outer s H → BindsTo s fd args (ps.zip us) → Vals vs us → sp vs H Q E →
    codeAny (model P w) A (.call (.ref f) args) (CR CX0 outer P w H s Q E) s
theorem FnG.mono {P : Program} {w : World} {K : PySem.W.Frag} {mg : Str → Option Value} {base : Heap} {j k : Nat} {f : Addr} {fd : FuncData} {ps : List Str} {sp : Sp} (F : FnG P w K mg base j f fd ps sp) (h : j ≤ k) : FnG P w K mg base k f fd ps sp :=
  ⟨F.len, fun A outer s H args us vs Q E hr => F.run A outer s H args us vs Q E (hr.mono h)⟩
theorem fnG_of {P : Program} {w : World} {K : PySem.W.Frag} {mg : Str → Option Value} {base : Heap} {k : Nat} {f : Addr} {qual : Str} {params : Arguments} {body : List Stmt} {scope : Scope} {cdv oc : Value} {od : Option Addr} {osl : Array (Option Value)} {N ps : List Str} {sp : Sp} {fd : FuncData}
    (hfd : ∃ x dV kV doc pm an ct, fd = PySem.W.fnOf x qual params body scope dV kV doc pm an cdv ct) (lk : K.lookup f = some ⟨oc, od, .func fd, osl⟩) (hcd : PySem.W.codeIn K cdv qual = true) (S : FnScope N ps scope) (len : ∀ vs H Q E, sp vs H Q E → vs.length = ps.length)
    (hb : ∀ (A : Around) (outer : List Env) (s : Shared) (H : Hp) (vs : List V) (Q : VK) (E : XK), Room k (A.deeper (envOfC qual scope s.heap.objs.size f cdv)) → A.guards = some [] → sp vs H Q E →
      ∃ t, PSs (cxOf CX0 P w K mg base N qual scope f cdv A outer s H E) body t ∧ t { nx := fun _ H' => Q .non H', rt := Q } (start N vs) H) : FnG P w K mg base (k + 1) f fd ps sp := by
  obtain ⟨x, dV, kV, doc, pm, an, ct, rfl⟩ := hfd
  refine ⟨len, fun A outer s H args us vs Q E hr hg e0 hbd rv hsp => ?_⟩
  have key : ∀ (us0 : List Value) (Q0 : VK), True := fun _ _ => trivial
  have KX : K.In s.heap := e0.mod.kin.keeps fun b o e => (e0.bs b o e).1
  have lim : s.heap.NoLimit := e0.mod.nolimit.keeps fun b o e => (e0.bs b o e).1
  have vis : ∀ y ∈ ps.zip us, scope.names.lookup y.1 = some .local ∨ (scope.names.lookup y.1 = some .cell ∧ ((cellsFrom (s.heap.objs.size + 1) scope.names []).lookup y.1).isSome = true) := by
    rintro ⟨n, v⟩ hy
    rcases S.par n (List.of_mem_zip hy).1 with q | q
    · left; exact q
    · right; exact ⟨q, PySem.W.cellsFrom_some _ _ _ (.inl q)⟩
  refine codeAny_call_function hr.depth (KX _ _ lk) rfl S.co S.gen rfl (PySem.W.codeRec_of KX hcd) (hbd _ _ _ _ (wpAny_newFunctionEnv_cells S.kind vis fun env he s1 x => ?_))
  subst he
  refine ⟨lim.keeps x.toInCall.keep, codeAny_func ?_⟩
  obtain ⟨t, ht, hq⟩ := hb A outer s H vs Q E (hr.deeper _) hg hsp
  have I := inv_start (CX := CX0) (P := P) (w := w) (E := E) S hr.hd e0 (len _ _ _ _ hsp) rv x
  refine wpAny_mono (ht.run [] s1 (start N vs) H _ I hq) (fun fl s' hs => ?_) fun e s' hs => hs
  cases fl with
  | ret u =>
    obtain ⟨v, σ', H', J, rv', q⟩ := hs
    exact ⟨v, H', J.os, J.bare, J.base, J.hok, rv', q⟩
  | next =>
    obtain ⟨σ', H', J, q⟩ := hs
    exact ⟨.non, H', J.os, J.bare, J.base, J.hok, rfl, q⟩
  | brk => obtain ⟨_, _, _, q⟩ := hs; exact q.elim
  | cont => obtain ⟨_, _, _, q⟩ := hs; exact q.elim
/-- .. that an exception may leave -/
structure FnX (P : Program) (w : World) (K : PySem.W.Frag) (mg : Str → Option Value) (base : Heap) (k : Nat) (f : Addr) (fd : FuncData) (ps : List Str) (sp : Sp) : Prop where
  len : ∀ vs H Q E, sp vs H Q E → vs.length = ps.length
  run : ∀ (A : Around) (outer : List Env) (s : Shared) (H : Hp) (args : Args) (us : List Value) (vs : List V) (Q : VK) (E : XK), Room k A → A.guards = some [] → Env0 P w K mg base A outer s H → BindsTo s fd args (ps.zip us) → Vals vs us → sp vs H Q E →
    codeAny (model P w) A (.call (.ref f) args) (CR (L2.CX P w) outer P w H s Q E) s
theorem FnG.x {P : Program} {w : World} {K : PySem.W.Frag} {mg : Str → Option Value} {base : Heap} {k : Nat} {f : Addr} {fd : FuncData} {ps : List Str} {sp : Sp} (F : FnG P w K mg base k f fd ps sp) {vs : List V} {H : Hp} {Q : VK} {E : XK} {A : Around} {outer : List Env} {s : Shared} {args : Args} {us : List Value}
    (hr : Room k A) (hg : A.guards = some []) (e0 : Env0 P w K mg base A outer s H) (hb : BindsTo s fd args (ps.zip us)) (rv : Vals vs us) (h : sp vs H Q E) : codeAny (model P w) A (.call (.ref f) args) (CR (L2.CX P w) outer P w H s Q E) s :=
  codeAny_mono (F.run A outer s H args us vs Q E hr hg e0 hb rv h) fun r s' hq => by
    cases r with
    | error e => exact hq.elim
    | ok fl => cases fl <;> exact hq
theorem fnX_of {P : Program} {w : World} {K : PySem.W.Frag} {mg : Str → Option Value} {base : Heap} {k : Nat} {f : Addr} {qual : Str} {params : Arguments} {body : List Stmt} {scope : Scope} {cdv oc : Value} {od : Option Addr} {osl : Array (Option Value)} {N ps : List Str} {sp : Sp} {fd : FuncData}
    (hfd : ∃ x dV kV doc pm an ct, fd = PySem.W.fnOf x qual params body scope dV kV doc pm an cdv ct) (lk : K.lookup f = some ⟨oc, od, .func fd, osl⟩) (hcd : PySem.W.codeIn K cdv qual = true) (S : FnScope N ps scope) (len : ∀ vs H Q E, sp vs H Q E → vs.length = ps.length)
    (hb : ∀ (A : Around) (outer : List Env) (s : Shared) (H : Hp) (vs : List V) (Q : VK) (E : XK), Room k (A.deeper (envOfC qual scope s.heap.objs.size f cdv)) → A.guards = some [] → sp vs H Q E →
      ∃ t, PSs (cxOf (L2.CX P w) P w K mg base N qual scope f cdv A outer s H E) body t ∧ t { nx := fun _ H' => Q .non H', rt := Q } (start N vs) H) : FnX P w K mg base (k + 1) f fd ps sp := by
  obtain ⟨x, dV, kV, doc, pm, an, ct, rfl⟩ := hfd
  refine ⟨len, fun A outer s H args us vs Q E hr hg e0 hbd rv hsp => ?_⟩
  have KX : K.In s.heap := e0.mod.kin.keeps fun b o e => (e0.bs b o e).1
  have lim : s.heap.NoLimit := e0.mod.nolimit.keeps fun b o e => (e0.bs b o e).1
  have vis : ∀ y ∈ ps.zip us, scope.names.lookup y.1 = some .local ∨ (scope.names.lookup y.1 = some .cell ∧ ((cellsFrom (s.heap.objs.size + 1) scope.names []).lookup y.1).isSome = true) := by
    rintro ⟨n, v⟩ hy
    rcases S.par n (List.of_mem_zip hy).1 with q | q
    · left; exact q
    · right; exact ⟨q, PySem.W.cellsFrom_some _ _ _ (.inl q)⟩
  refine codeAny_call_function hr.depth (KX _ _ lk) rfl S.co S.gen rfl (PySem.W.codeRec_of KX hcd) (hbd _ _ _ _ (wpAny_newFunctionEnv_cells S.kind vis fun env he s1 x => ?_))
  subst he
  refine ⟨lim.keeps x.toInCall.keep, codeAny_func ?_⟩
  obtain ⟨t, ht, hq⟩ := hb A outer s H vs Q E (hr.deeper _) hg hsp
  have I := inv_start (CX := L2.CX P w) (P := P) (w := w) (E := E) S hr.hd e0 (len _ _ _ _ hsp) rv x
  refine wpAny_mono (ht.run [] s1 (start N vs) H _ I hq) (fun fl s' hs => ?_) fun e s' hs => hs
  cases fl with
  | ret u =>
    obtain ⟨v, σ', H', J, rv', q⟩ := hs
    exact ⟨v, H', J.os, J.bare, J.base, J.hok, rv', q⟩
  | next =>
    obtain ⟨σ', H', J, q⟩ := hs
    exact ⟨.non, H', J.os, J.bare, J.base, J.hok, rfl, q⟩
  | brk => obtain ⟨_, _, _, q⟩ := hs; exact q.elim
  | cont => obtain ⟨_, _, _, q⟩ := hs; exact q.elim
section
variable {X : Cx}
theorem run_g {pins : List (Addr × Obj)} {σ : L2.St} {H : Hp} {s : Shared} {Q : VK} {us : List Value} {kw : List (Str × Value)} {ws : List Value} {vs : List V} {k : Nat} {f : Addr} {fd : FuncData} {ps : List Str} {sp : Sp} (F : FnG X.prog X.w X.K X.mg X.base k f fd ps sp) (hr : Room k X.A) (hg : X.A.guards = some [])
    (hb : BindsTo s fd ⟨us, kw⟩ (ps.zip ws)) (I : Inv X pins σ H s) (r : Vals vs ws) (h : sp vs H Q E0) : wpAny (model X.prog X.w) X.A (call (.ref f) us kw) (EP X pins σ Q) X.xe s := by
  refine wpAny_call (codeAny_mono (F.run X.A X.stack s H ⟨us, kw⟩ ws vs Q E0 hr hg I.env0 hb r h) fun r s' hq => ?_)
  cases r with
  | error e => exact hq.elim
  | ok fl =>
    cases fl with
    | ret u => exact I.after hq
    | next => exact hq.elim
    | brk => exact hq.elim
    | cont => exact hq.elim
end
end Ev

set_option Elab.async false
set_option linter.all false
set_option maxRecDepth 100000
set_option maxHeartbeats 4000000
/-! RungError.__init__: super().__init__(value), self.value = value; over ValueError. -/
namespace Ev
open PySem PySem.W PySem.Calls PyProof.Rows
section
variable {prog : Program} {w : World} {A : Around} {E : Value → Shared → Prop} {h : Heap} {g : Array GenState} {d : Drawn} {t : Nat} {os : OsState}
variable {nm q : Str} {C N : Addr} {bs bm : List Value} {hdct : Bool} {sn : List Str} {sub : List Value} {ab : Bool} {col : Option Bool} {dd : Option Addr} {k0 k1 k2 k3 k5 : Option Value}
/-- ValueError.__init__, bound to an exception, called -/
theorem call_mwV {u e t0 : Addr} {rest : List Value} {Q : Value → Shared → Prop}
    (hC : h.get? C = some (excClassObj nm q C N bs bm hdct sn sub ab col dd k0 k1 k2 k3 k5 "ValueError.__new__")) (he : h.get? e = some (HandSPX.excO C t0)) (hu : h.get? u = some (kxs_mw "ValueError.__init__" e)) (hrest : rest.length ≤ sizeLine)
    (hq : ∀ h' t1, h.objs.size ≤ h'.objs.size → (∀ b o, b ≠ e → h.get? b = some o → h'.get? b = some o) → h'.get? e = some (HandSPX.excO C t1) → Q .none ⟨h', g, d, t, os⟩) :
    wpAny (model prog w) A (call (.ref u) rest) Q E ⟨h, g, d, t, os⟩ := by
  refine wpAny_call (codeAny_of_tree ?_)
  show wpAny _ A.in1 (callAny (.ref u) ⟨rest, []⟩) _ _ _
  simp only [callAny]
  refine wpAny_bind (wpAny_load hu ?_)
  simp only [kxs_mw, show (Value.type "method-wrapper" == Value.type "method" || Value.type "method-wrapper" == Value.type "builtin_function_or_method" || Value.type "method-wrapper" == Value.type "method-wrapper") = true by decide, if_true]
  refine KFB.if_so (by decide) ?_
  refine wpAny_bind (ESX.check_bound F.excBase_ValueError hC he rfl ?_)
  refine wpAny_bind (wpAny_pure (wpAny_pure ?_))
  refine ⟨Code.quiet_builtin _ (by decide +kernel), codeAny_builtin F.excBase_ValueError.initEntry ?_⟩
  rw [Around.under_plainId F.excBase_ValueError.init.plain _]
  wp_walk
  refine hq _ h.objs.size (by rw [Heap.size_update, Heap.size_push]; omega) (fun b o hb ho => ?_) ?_
  · rw [Heap.get?_update_other _ _ (Ne.symm hb)]
    exact Heap.get?_push_of_some _ ho
  · rw [Heap.get?_update_self _ (Heap.get?_push_of_some _ he) rfl]
    rfl
end
end Ev
namespace Ev
open PySem PySem.W PySem.Calls PyProof.Rows
/-- what the written part tells of RungError's __init__ (at fI), its class D, and a class C over it -/
structure RungK (prog : Program) (K : Frag) (fI D C : Addr) : Prop where
  def_ : ∃ (name qual : Str) (params : Arguments) (scope : Scope) (dV kV doc pm ct oc : Value) (an od : Option Addr) (osl : Array (Option Value)) (cda cc : Addr) (p0 p1 p2 p3 p4 p5 p6 p7 p8 p9 : Pos),
    K.lookup fI = some ⟨oc, od, .func (ksFn name qual params [.Expr (.Call (.Attribute (.Call (.Name "super" p0) [] [] p1) "__init__" p2) [.Name "value" p3] [] p4) p5, .Assign [.Attribute (.Name "self" p6) "value" p7] (.Name "value" p8) p9] scope dV kV doc pm an (.ref cda) ct cc), osl⟩ ∧
    codeIn K (.ref cda) qual = true ∧ (∃ ar, (params.posonlyargs ++ params.args).head? = some ar ∧ ar.arg = "self") ∧
    (scope.names.lookup ("self" : Str) = some .local ∧ scope.names.lookup ("value" : Str) = some .local ∧ scope.names.lookup ("super" : Str) = some .globalImplicit ∧ scope.names.lookup ("__class__" : Str) = some .free ∧ (∀ x ∈ scope.names, x.2 ≠ .cell) ∧ scope.kind = .function ∧ scope.isCoroutine = false ∧ scope.isGenerator = false) ∧
    (∃ (ccl : Value) (cdd : Option Addr) (vs : Array Value) (ccs : Array (Option Value)) (file : Str) (tf : Tok), K.lookup cda = some ⟨ccl, cdd, .fields vs, ccs⟩ ∧ vs[2]? = some (.str file tf) ∧ ((prog.main.file : Str) == file) = true) ∧
    (∃ (cl : Value) (cld : Option Addr) (csl : Array (Option Value)), K.lookup cc = some ⟨cl, cld, .cell (some (.ref D)), csl⟩) ∧
    (∃ pl : Env → Sem Bool, ∀ env, eval (.Call (.Attribute (.Call (.Name "super" p0) [] [] p1) "__init__" p2) [.Name "value" p3] [] p4) env = (do
      let ov ← attributeBase (.Call (.Name "super" p0) [] [] p1) "__init__" env (eval (.Call (.Name "super" p0) [] [] p1) env)
      standAt p2.atName
      let (f, first) ← holding [ov] (getMethod ov "__init__" (pl env))
      callWith p4 f first (backTo p4 (starEach [.Name "value" p3] env)) [])) ∧
    (∀ env, swapsWith (.Call (.Attribute (.Call (.Name "super" p0) [] [] p1) "__init__" p2) [.Name "value" p3] [] p4) none p5.line env = pure false) ∧
    (∀ env, swapsWith (.Name "value" p8) (some (.Attribute (.Name "self" p6) "value" p7)) p9.line env = pure false) ∧
    ∀ (s : Shared) (e u : Value), BindsTo s (ksFn name qual params [.Expr (.Call (.Attribute (.Call (.Name "super" p0) [] [] p1) "__init__" p2) [.Name "value" p3] [] p4) p5, .Assign [.Attribute (.Name "self" p6) "value" p7] (.Name "value" p8) p9] scope dV kV doc pm an (.ref cda) ct cc) ⟨[e, u], []⟩ [("self", e), ("value", u)]
  clsD : ∃ cdD, clsIn K D = some cdD
  over : mroIn K C (.ref D) = some true
  oex : L2.OexC K C
  sup : ks_superIn K C D "__init__" = some (some (.builtin "ValueError.__init__"))
  isV : subIn K (.ref C) (.type "ValueError") = some true
  any_ : nsIn K cStatics "thirdparty.any" = some none
  no : findIn K (.ref C) "value" = some none
  top : (prog.main.scope.names.lookup ("super" : Str)).isSome = false
section
variable {prog : Program} {w : World} {A : Around} {s : Shared} {K : Frag} {mg mb : Str → Option Value} {fI D C e t0 : Addr} {u : Value} {R : Result → Shared → Prop}
theorem rung_init (T : RungK prog K fI D C) (X : K.In s.heap) (gl : s.heap.Ns mainGlobals mg) (bl : s.heap.Ns builtinsNs mb) (hm : mg "super" = none) (hb : mb "super" = some (.type "super")) (lim : s.heap.NoLimit) (hroom : A.depth < recursionLimit)
    (he : s.heap.get? e = some (HandSPX.excO C t0)) (hKe : K.lookup e = none)
    (hq : ∀ (h' : Heap) (tk : Nat) (dx t1 : Addr), (∀ b o, b ≠ e → s.heap.get? b = some o → h'.get? b = some o) → s.heap.objs.size ≤ dx → dx ≠ e → h'.get? e = some { cls := .ref C, dict := some dx, data := .fields #[.ref t1, .none, .none, .none, .bool false, .none] } →
      h'.Ns1 dx (fun y => if y = "value" then some u else none) → R (.ok (.ret .none)) { s with heap := h', toks := tk }) :
    codeAny (model prog w) A (.call (.ref fI) ⟨[.ref e, u], []⟩) R s := by
  obtain ⟨name, qual, params, scope, dV, kV, doc, pm, ct, oc, an, od, osl, cda, cc, p0, p1, p2, p3, p4, p5, p6, p7, p8, p9, lk, hcd, ⟨ar, har, hself⟩, ⟨ks, kv, ksu, kcl, hcell, hk, hco, hgen⟩, ⟨ccl, cdd, vs, ccs, file, tf, hcode, hvs, hfile⟩, ⟨cl, cld, csl, hcc⟩, ⟨pl, hpl⟩, hs1, hs2, hbind⟩ := T.def_
  obtain ⟨cdD, hD⟩ := T.clsD
  obtain ⟨oD, hD1, hD2⟩ : ∃ oD, K.lookup D = some oD ∧ oD.data = .cls cdD := by
    unfold clsIn at hD
    split at hD
    · rename_i c d cd' sl ho
      cases hD
      exact ⟨_, ho, rfl⟩
    · cases hD
  obtain ⟨nm, q, N, bs, bm, sn, sub, ab, col, dd, k0, k1, k2, k3, k5, hC, hbm⟩ := T.oex.cls
  have hcl : clsIn K C = some { name := nm, bases := bs, mro := .ref C :: bm, ns := N, qualname := q, hasDict := true, slotNames := sn, subclasses := sub, abstract := ab, collection := col, hasDel := false } := by unfold clsIn; rw [hC] <;> rfl
  refine ks_codeAny_call_defAt (binds := [("self", .ref e), ("value", u)]) hroom (X _ _ lk) rfl lim (codeRec_of X hcd) rfl (hbind s (.ref e) u) hcell (fun x hx => ?_) (fun h₀ hns hk0 => ?_) hco hgen hk
  · simp only [List.mem_cons, List.not_mem_nil, or_false] at hx
    rcases hx with rfl | rfl
    · exact ks
    · exact kv
  have X0 : K.In h₀ := fun b o z => hk0 b o (X b o z)
  have he0 := hk0 _ _ he
  have hL : ∀ b o, s.heap.get? b = some o → b ≠ s.heap.objs.size := fun b o z => Nat.ne_of_lt (Heap.lt_size z)
  refine ks_wpAt_execs_cons (ks_wpAt_Expr_any (ks_wpAt_MethodCall (pl := pl _) (ks_wpAt_super_base ksu kcl rfl rfl (X0 _ _ lk) rfl har rfl (X0 _ _ hcode) rfl hvs hfile T.top ?_) (hpl _)) (by show (scope.kind == .module && _) = false; rw [hk]; rfl) (hs1 _))
  refine ks_loadName_global hk ksu (loadGlobal_builtin (gl.keeps hk0) hm (bl.keeps hk0) hb ⟨rfl, ?_⟩)
  refine wpAny_loadName_free hk kcl rfl ⟨_, X0 _ _ hcc, rfl⟩ ?_
  rw [hself]
  refine wpAny_loadName_local (v := .ref e) hk ks hns (by rfl) ?_
  refine ks_wpAny_isType_cls (X0 _ _ hD1) hD2 ⟨rfl, ?_⟩
  have ne : e ≠ C := fun z => by
    have := X _ _ hC
    rw [← z, he] at this
    cases this
  refine ks_wpAny_call_super (C := C) (X0 _ _ hD1) hD2 he0 rfl (fun c z => by cases z) (looks_mroIn X0 T.over) (fun h1 hso hk1 => ?_)
  have X1 : K.In h1 := fun b o z => hk1 b o (X0 b o z)
  have he1 := hk1 _ _ he0
  have LC : ∀ {A' : Around} {Q' : List Value → Shared → Prop} {E' : Value → Shared → Prop} {s' : Shared}, True → True := fun _ => trivial
  have hmro : PySem.W.Looks (model prog w) h1 (mroOf (.ref C)) (.ref C :: bm) := (PySem.W.looks_clsIn X1 hcl).andThen .now
  have hinst : PySem.W.Looks (model prog w) h1 (isInstance (.ref e) (.type "ValueError")) true := by
    have LT : PySem.W.Looks (model prog w) h1 (typeOf (.ref e)) (.ref C) := fun A Q E s k q => wpAny_typeOf_ref (k _ _ he1) q
    exact LT.andThen (PySem.W.looks_subIn X1 T.isV)
  have hsup : alongIn K "__init__" (((Value.ref C :: bm).dropWhile (· != .ref D)).drop 1) = some (some (.builtin "ValueError.__init__")) := by
    have z := T.sup
    unfold ks_superIn at z
    rw [hcl] at z
    exact z
  refine kxs_getMethod kxs_ValueError hso (looks_opaque X1 T.any_) hmro rfl X1 hsup hinst ne (by decide) ?_
  show wpAny _ _ (callWith p4 (.ref h1.objs.size) [] (backTo p4 (starEach [.Name "value" p3] _)) []) _ _ _
  have hmw : (h1.push (kxs_mw "ValueError.__init__" e)).get? h1.objs.size = some (kxs_mw "ValueError.__init__" e) := Heap.get?_push_size _ rfl
  have kp : ∀ b o, h1.get? b = some o → (h1.push (kxs_mw "ValueError.__init__" e)).get? b = some o := fun b o z => Heap.get?_push_of_some _ z
  refine kxs_callWith (i := "ValueError.__init__") (x := e) rfl (evalArgs_plain ?_)
  have kp2 : ∀ b o, h₀.get? b = some o → (h1.push (kxs_mw "ValueError.__init__" e)).get? b = some o := fun b o z => kp b o (hk1 b o z)
  refine Calls.spliced_cons (ESX.ldL (v := u) (hns.keeps kp2) rfl ?_ hk kv)
  refine Calls.spliced_nil ⟨hmw, ?_⟩
  refine call_mwV (rest := [u]) (kp2 _ _ (X0 _ _ (by assumption))) (kp2 _ _ he0) hmw (by show 1 ≤ sizeLine; rw [sizeLine_eq]; omega) (fun h2 t2 hz2 hk2 he2 => ?_)
  have hkL : ∀ b o, h₀.get? b = some o → b ≠ e → h2.get? b = some o := fun b o z n => hk2 b o n (kp2 b o z)
  have X2 : K.In h2 := fun b o z => by
    have nb : b ≠ e := fun y => by
      rw [y, hKe] at z
      cases z
    exact hkL b o (X0 b o z) nb
  have eL : e ≠ s.heap.objs.size := hL _ _ he
  have hns2 : h2.Ns s.heap.objs.size (fun x => ([("self", Value.ref e), ("value", u)] : List (Str × Value)).reverse.lookup x) := by
    obtain ⟨o, es, ep, ho, r⟩ := hns
    exact ⟨o, es, ep, hkL _ _ ho (Ne.symm eL), r⟩
  show PySem.wpAt _ _ _ (execs _ _) _ _ _
  refine ks_wpAt_execs_cons (ks_wpAt_Assign_Attr (wpAt_of_wpAny (ESX.ldL (v := u) hns2 rfl ?_ hk kv)) (hs2 _))
  refine ESX.ldL (v := .ref e) hns2 rfl ?_ hk ks
  refine PySem.W.set_plain X2 (ox := HandSPX.excO C t2) (od := none) ⟨he2, rfl, rfl, trivial⟩ T.oex.sa ?_
  refine PySem.HandSPX.exc_osa X2 he2 hcl (show PySem.HandSPX.refsVE (.ref C :: bm) = true from hbm) rfl T.no (fun h3 tk3 dx k3 dn dne hx hn => ?_)
  refine wpAt_of_wpAny (wpAny_execs_nil ?_)
  refine hq h3 tk3 dx t2 (fun b o nb z => k3 b o nb (hkL b o (hk0 _ _ z) nb)) ?_ dne hx hn
  obtain ⟨oL, _, _, hoL, _⟩ := hns
  have z1 : s.heap.objs.size < h₀.objs.size := Heap.lt_size hoL
  have z2 := Heap.lt_size hso
  rw [Heap.size_push] at hz2
  have dn2 : h2.objs.size ≤ dx := dn
  have z3 : h₀.objs.size < h1.objs.size := z2
  omega
end
end Ev

set_option Elab.async false
set_option linter.all false
set_option maxRecDepth 100000
set_option maxHeartbeats 4000000
/-! The classes of errors: what is told of them, how one is made. -/
namespace Ev
variable [Zc]
open PySem PySem.Spec PyProof.Rows L2
/-- what is told of the class of the name c -/
structure ErrOk (P : Program) (K : PySem.W.Frag) (mg : Str → Option Value) (c : Str) : Prop where
  mg : mg c = some (.ref (He.ga K c))
  rk : ∃ fI D, RungK P K fI D (He.ga K c) ∧ PySem.W.findIn K (.ref (He.ga K c)) "__init__" = some (some (.ref fI)) ∧ PySem.W.typeIn K (.ref fI) = some (.type "function")
  exm : PySem.W.exmOne K (.ref (He.ga K c)) (.ref (He.ga K "RungError")) = some true
  xf : XfC K (He.ga K c)
  xc : ExcC K (He.ga K c)
structure Ers (P : Program) (K : PySem.W.Frag) (mg : Str → Option Value) (er : List Str) : Prop where
  all : ∀ c ∈ er, ErrOk P K mg c
  rung : er ≠ [] → mg "RungError" = some (.ref (He.ga K "RungError"))
  sup : mg "super" = none
  is_ : ∀ c ∈ er, ∀ x ∈ er, PySem.W.kitOne K (.ref (He.ga K c)) (.ref (He.ga K x)) = some (c == x)
  isN : ∀ x ∈ er, PySem.W.kitOne K (.type "NoneType") (.ref (He.ga K x)) = some false
/-- C(e) for an error's class: its dict is new -/
def tMkR (C : Addr) (te : TE) : L2.St → Hp → XK → Prop := fun σ H Q => te σ H fun v H1 => ∀ dd, H1 dd = none → Q (.ref C) (some dd) (upd H1 dd (.xd [("value", v)]))
section
variable {X : Cx} {e : Expr} {te : TE} {p pos : Pos} {x : Str}
theorem pmk_rung (T : ErrOk X.prog X.K X.mg x) (hs : X.mg "super" = none) (hr : Room 0 X.A) (hg : Gl X x) (he : PE X e te) (hdb : (x == ("__debug__" : Str)) = false) (hst : starEach [e] X.env = (false, eval e X.env) :: starEach [] X.env) :
    PMk X (.Call (.Name x p) [e] [] pos) (tMkR (He.ga X.K x) te) := by
  intro pins s σ H Q I h
  obtain ⟨fI, D, R, iC, tI⟩ := T.rk
  obtain ⟨nm, q, N, bs, bm, sn, sub, ab, col, dd, k0, k1, k2, k3, k5, hC, hbm⟩ := R.oex.cls
  refine wpAny_Call_Name_kw (ld_glob I hg T.mg ?_ hdb)
  have ha : PA X [e] (tCons te tNil) := pa_cons he pa_nil hst
  let Q' : List V → Hp → Prop := fun vs H1 => match vs with
    | [v] => ∀ dd, H1 dd = none → Q (.ref (He.ga X.K x)) (some dd) (upd H1 dd (.xd [("value", v)]))
    | _ => False
  refine PySem.W.callWith_K (h₀ := X.base) I.ok.mod.kin R.oex.kC (thn (ha.run pos pins s σ H Q' I h) fun us s1 ⟨vs, H1, I1, r1, q1⟩ => ⟨I1.kIn, ?_⟩) hst rfl
  match vs, r1, q1 with
  | [v], .cons (b := u) ru .nil, q1 =>
    have q1 : ∀ dd, H1 dd = none → Q (.ref (He.ga X.K x)) (some dd) (upd H1 dd (.xd [("value", v)])) := q1
    show wpAny _ _ (call (.ref (He.ga X.K x)) [u]) _ _ _
    obtain ⟨hp, g, dr, tk, os⟩ := s1
    have kk : ∀ b o, hp.get? b = some o → ((hp.push (PySem.W.kdv_tup [u])).push (PySem.HandSPX.excO (He.ga X.K x) hp.objs.size)).get? b = some o := fun b o e => Heap.get?_push_of_some _ (Heap.get?_push_of_some _ e)
    have hget : ((hp.push (PySem.W.kdv_tup [u])).push (PySem.HandSPX.excO (He.ga X.K x) hp.objs.size)).get? (hp.objs.size + 1) = some (PySem.HandSPX.excO (He.ga X.K x) hp.objs.size) := by heap_get
    have kinh := I1.kIn
    obtain ⟨mb, hmb, hbb⟩ := I1.mod.blt
    have hKe : X.K.lookup (hp.objs.size + 1) = none := by
      cases z : X.K.lookup (hp.objs.size + 1) with
      | none => rfl
      | some o => exact absurd (Heap.lt_size (kinh _ _ z)) (by show ¬ (hp.objs.size + 1 < hp.objs.size); omega)
    refine wpAny_call (PySem.HandSPX.call_own F.excBase_ValueError (fun Y => PySem.HandSPX.refsVE_contains Y bm hbm) (I1.kIn _ _ hC) (PySem.W.looks_findIn I1.kIn iC) (fun self => PySem.W.bind_fn I1.kIn self tI) (by show 1 ≤ sizeLine; rw [sizeLine_eq]; omega) ?_)
    refine rung_init R (fun b o z => kk b o (kinh b o z)) ((I1.mod.glob.keeps I1.bk).keeps kk) ((hmb.keeps I1.bk).keeps kk) hs ((hbb _ (by decide)).trans (by decide +kernel)) (I1.nolimit.keeps kk) (by rw [make_depth]; have := hr.dp; omega) hget hKe fun h' tk' dx t1 k' dn dne hx hn => ?_
    refine ⟨rfl, ?_⟩
    obtain ⟨G, g1', g2'⟩ := restrict h' fun b => decide (b ≠ hp.objs.size + 1)
    have gk : ∀ b, b ≠ hp.objs.size + 1 → G.get? b = h'.get? b := fun b hb => g1' b (decide_eq_true hb)
    have ge : G.get? (hp.objs.size + 1) = none := g2' _ (by simp)
    have nha : ∀ {b : Addr} {o : Obj}, hp.get? b = some o → b ≠ hp.objs.size + 1 := fun {b o} z => Nat.ne_of_lt (Nat.lt_succ_of_lt (Heap.lt_size z))
    have kG : ∀ b o, hp.get? b = some o → G.get? b = some o := fun b o z => (gk b (nha z)).trans (k' b o (nha z) (kk b o z))
    have hdx : hp.objs.size ≤ dx := by
      have z : ((hp.push (PySem.W.kdv_tup [u])).push (PySem.HandSPX.excO (He.ga X.K x) hp.objs.size)).objs.size ≤ dx := dn
      rw [Heap.size_push, Heap.size_push] at z
      omega
    have nd : H1 dx = none := I1.hok.fresh hdx
    have na : H1 (hp.objs.size + 1) = none := I1.hok.fresh (show hp.objs.size ≤ hp.objs.size + 1 by omega)
    have J := I1.laid (t' := tk') (a := dx) (o := .xd [("value", v)]) (h' := G) kG hdx ⟨_, hn.at fun o y => (gk dx dne).trans y, fun f => by
      by_cases hf : f = "value"
      · subst hf; simp only [List.lookup, beq_self_eq_true, if_true]; exact ru
      · have e1 : (f == ("value" : Str)) = false := by simpa using hf
        simp [List.lookup, e1, hf, RelO]⟩
    refine ⟨hp.objs.size + 1, _, _, _, _, .ref (He.ga X.K x), some dx, rfl, J, fun b o z => ?_, ge, hx, ⟨rfl, rfl⟩, rfl, rfl, ?_, rfl, I1.bare, raises_own R.oex.exC R.oex.tyC, q1 dx nd⟩
    · by_cases hb : b = hp.objs.size + 1
      · have z' : G.get? b = some o := z
        rw [hb, ge] at z'; cases z'
      · exact (gk b hb).symm.trans z
    · rw [upd_ne (Ne.symm dne)]; exact na
end
end Ev

set_option Elab.async false
set_option linter.all false
set_option maxRecDepth 100000
set_option maxHeartbeats 1000000
/-! The look that a text is what a term says, and that the term's value is the text's. -/
namespace Ev
variable [Zc]
open PySem PySem.Spec PyProof.Rows L2

/-! ### the look -/
structure Ga where
  N : List Str
  fn : List (Nat × Str)
  cn : List (Str × D)
  kb : List (Nat × List Str × List Nat)
  er : List Str := []
  fc : List (Nat × Str) := []
  fd : List (Nat × Str) := []
  lam : LLs := .nil
/-- no closure is made or called -/
def Ga.nl (G : Ga) : Ga := { G with lam := .nil }
def isVis (sc : Scope) (x : Str) : Bool := match sc.names.lookup x with
  | some .local => true | some .cell => true | some .free => true | _ => false
def isGl (sc : Scope) (x : Str) : Bool := match sc.names.lookup x with
  | some .globalImplicit => true | _ => false
def okN (x : Str) : Bool := x != ("__debug__" : Str) && x != ("__classdict__" : Str) && x != ("__name__" : Str)
def plainE : Expr → Bool
  | .Starred .. => false
  | _ => true
mutual
def deq : D → D → Bool
  | .none, .none => true
  | .bool a, .bool b => a == b
  | .int a, .int b => a == b
  | .str a, .str b => a == b
  | .tuple a, .tuple b => deqs a b
  | _, _ => false
def deqs : List D → List D → Bool
  | [], [] => true
  | x :: xs, y :: ys => deq x y && deqs xs ys
  | _, _ => false
end
mutual
theorem deq_eq : ∀ {a b : D}, deq a b = true → a = b
  | .none, b, h => by cases b <;> simp_all [deq]
  | .bool x, b, h => by cases b <;> simp_all [deq]
  | .int x, b, h => by cases b <;> simp_all [deq]
  | .str x, b, h => by cases b <;> simp_all [deq]
  | .tuple x, b, h => by
    cases b with
    | tuple y => simp only [deq] at h; rw [deqs_eq h]
    | _ => simp [deq] at h
  | .list x, b, h => by cases b <;> simp [deq] at h
  | .dict x, b, h => by cases b <;> simp [deq] at h
theorem deqs_eq : ∀ {a b : List D}, deqs a b = true → a = b
  | [], b, h => by cases b <;> simp_all [deqs]
  | x :: xs, b, h => by
    cases b with
    | nil => simp [deqs] at h
    | cons y ys =>
      simp only [deqs, Bool.and_eq_true] at h
      rw [deq_eq h.1, deqs_eq h.2]
end
mutual
/-- the same term: what a closure is called with -/
def ceq : CE → CE → Bool
  | .var i, .var j => i == j
  | .con d, .con e => deq d e
  | .gl x d, .gl y e => x == y && deq d e
  | .neg a, .neg b => ceq a b
  | .tup a, .tup b => ceqs a b
  | _, _ => false
def ceqs : CEs → CEs → Bool
  | .nil, .nil => true
  | .cons s a r, .cons t b q => s == t && ceq a b && ceqs r q
  | _, _ => false
end
def leq : LLs → LLs → Bool
  | .nil, .nil => true
  | .cons n f es r, .cons m g fs q => n == m && f == g && ceqs es fs && leq r q
  | _, _ => false
mutual
theorem ceq_eq : ∀ {a b : CE}, ceq a b = true → a = b
  | .var i, b, h => by cases b <;> simp_all [ceq]
  | .con d, b, h => by
    cases b with
    | con e => simp only [ceq] at h; rw [deq_eq h]
    | _ => simp [ceq] at h
  | .gl x d, b, h => by
    cases b with
    | gl y e => simp only [ceq, Bool.and_eq_true, beq_iff_eq] at h; rw [h.1, deq_eq h.2]
    | _ => simp [ceq] at h
  | .neg a, b, h => by
    cases b with
    | neg e => simp only [ceq] at h; rw [ceq_eq h]
    | _ => simp [ceq] at h
  | .tup a, b, h => by
    cases b with
    | tup e => simp only [ceq] at h; rw [ceqs_eq h]
    | _ => simp [ceq] at h
  | .peek .., b, h | .lst .., b, h | .bin .., b, h | .cmp .., b, h | .chain .., b, h | .and .., b, h | .or .., b, h | .one .., b, h | .not .., b, h | .ite .., b, h | .sub .., b, h | .sl .., b, h | .rev .., b, h | .call .., b, h | .callk .., b, h | .blt .., b, h | .isi .., b, h | .meth .., b, h | .lrng .., b, h | .trng .., b, h | .comp .., b, h | .comp2 .., b, h | .cnt .., b, h | .idx .., b, h | .sset .., b, h | .dlit .., b, h | .dlitI .., b, h | .dget .., b, h | .lam .., b, h | .cc .., b, h | .excIs .., b, h | .excVal .., b, h => by cases b <;> simp [ceq] at h
theorem ceqs_eq : ∀ {a b : CEs}, ceqs a b = true → a = b
  | .nil, b, h => by cases b <;> simp_all [ceqs]
  | .cons s a r, b, h => by
    cases b with
    | nil => simp [ceqs] at h
    | cons t b q =>
      simp only [ceqs, Bool.and_eq_true, beq_iff_eq] at h
      rw [h.1.1, ceq_eq h.1.2, ceqs_eq h.2]
end
theorem leq_eq : ∀ {a b : LLs}, leq a b = true → a = b
  | .nil, b, h => by cases b <;> simp_all [leq]
  | .cons n f es r, b, h => by
    cases b with
    | nil => simp [leq] at h
    | cons m g fs q =>
      simp only [leq, Bool.and_eq_true, beq_iff_eq] at h
      rw [h.1.1.1, h.1.1.2, ceqs_eq h.1.2, leq_eq h.2]
def noArgs : Arguments → Bool
  | ⟨[], [], none, [], [], none, []⟩ => true
  | _ => false
def fcIs (G : Ga) (f : Nat) (x : Str) : Bool := (match G.fc.lookup f with
  | some y => y == x
  | none => false) || (match G.fd.lookup f with
  | some y => y == x
  | none => false)
def isNilL : LLs → Bool
  | .nil => true
  | _ => false
def chkC : Const → D → Bool
  | .none, .none => true
  | .bool a, .bool b => a == b
  | .int a, .int b => a == b
  | .str a, .str b => a == b
  | _, _ => false
def bltName : Bl → Str
  | .len => "len" | .abs => "abs" | .max2 => "max" | .min2 => "min" | .int => "int" | .str => "str" | .repr => "repr"
  | .tuple => "tuple" | .list => "list" | .sorted => "sorted" | .sum => "sum" | .all => "all" | .any => "any" | .max1 => "max" | .min1 => "min"
def tyName : Ty → Str
  | .int => "int" | .bool => "bool" | .str => "str" | .tup => "tuple" | .lst => "list"
def nmIs (N : List Str) (i : Nat) (x : Str) : Bool := match N[i]? with
  | some y => y == x
  | none => false
/-- no starred target -/
def noSt : Expr → Bool
  | .Starred .. => false
  | _ => true
mutual
def chkT (G : Ga) (fp : Str → Bool) (sc : Scope) : Tg → Expr → Bool
  | .nm i, .Name x _ => nmIs G.N i x && (match sc.names.lookup x with | some .local => true | some .cell => fp x | _ => false)
  | .tp ts, .Tuple es _ _ => chkTs G fp sc ts es
  | _, _ => false
def chkTs (G : Ga) (fp : Str → Bool) (sc : Scope) : Tgs → List Expr → Bool
  | .nil, [] => true
  | .cons t r, e :: es => noSt e && (chkT G fp sc t e && chkTs G fp sc r es)
  | _, _ => false
end
/-- the target's slots are the block's own -/
def tgIn (own : List Nat) (t : Tg) : Bool := (slotsOf t).all fun i => own.contains i
def chkOwn (N : List Str) (own : List Nat) : List (Str × Nat) := own.map fun i => (N.getD i "", i)
/-- a subscript that is no slice -/
def plainSub : Expr → Bool
  | .Slice .. => false
  | _ => true
def setLit : Expr → Bool
  | .Set .. => true
  | _ => false
def fnIs (G : Ga) (f : Nat) (x : Str) : Bool := match G.fn.lookup f with
  | some y => y == x
  | none => false
def cnIs (G : Ga) (x : Str) (d : D) : Bool := match G.cn.lookup x with
  | some d' => deq d d'
  | none => false

def kwNames : List Keyword → Option (List Str)
  | [] => some []
  | ⟨some n, _, _⟩ :: r => (kwNames r).map (n :: ·)
  | _ => none
def kbIs (G : Ga) (f : Nat) (kws : List Keyword) (perm : List Nat) : Bool := match kwNames kws with
  | some ks => G.kb.any fun q => q.1 == f && (q.2.1 == ks && q.2.2 == perm)
  | none => false
def lenOk : List Expr → Bool
  | [_] => true
  | [_, _] => true
  | _ => false
/-- the keys of a display: texts -/
def chkKy : List Str → List (Option Expr) → Bool
  | [], [] => true
  | x :: xs, some (.Constant (.str y) _ _) :: r => x == y && chkKy xs r
  | _, _ => false
/-- the keys of a display: names -/
def chkKn (G : Ga) (sc : Scope) : List Nat → List (Option Expr) → Bool
  | [], [] => true
  | i :: is, some (.Name x _) :: r => (nmIs G.N i x && isVis sc x && okN x) && chkKn G sc is r
  | _, _ => false
/-- an iterable that is no set display -/
def itOk (e : Expr) : Bool := !setLit e

mutual
/-- the small forms: what a closure is called with -/
def sckE (G : Ga) (sc : Scope) : CE → Expr → Bool
  | .var i, .Name x _ => nmIs G.N i x && isVis sc x && okN x
  | .con d, .Constant c _ _ => chkC c d
  | .gl y d, .Name x _ => x == y && isGl sc x && okN x && cnIs G x d
  | .neg a, .UnaryOp .USub l _ => sckE G sc a l
  | .tup es, .Tuple l _ _ => sckEs G sc es l
  | _, _ => false
def sckEs (G : Ga) (sc : Scope) : CEs → List Expr → Bool
  | .nil, [] => true
  | .cons false c r, e :: es => plainE e && sckE G sc c e && sckEs G sc r es
  | _, _ => false
end
def chkLb (G : Ga) (sc : Scope) (f : Nat) (es : CEs) : Expr → Bool
  | .Call (.Name x _) (e :: l) [] _ => fnIs G f x && isGl sc x && okN x && sckEs G sc es (e :: l)
  | _ => false
mutual
/-- what is no slot of these -/
def frE (own : List Nat) : CE → Bool
  | .var i => !own.contains i
  | .con _ => true
  | .gl _ _ => true
  | .neg a => frE own a
  | .tup es => frEs own es
  | _ => false
def frEs (own : List Nat) : CEs → Bool
  | .nil => true
  | .cons false e r => frE own e && frEs own r
  | _ => false
end
def llFree (own : List Nat) : LLs → Bool
  | .nil => true
  | .cons _ _ es r => frEs own es && llFree own r
mutual
/-- no closure within -/
def nlE : CE → Bool
  | .var _ => true
  | .con _ => true
  | .gl _ _ => true
  | .tup es => nlEs es
  | .lst es => nlEs es
  | .bin _ a b => nlE a && nlE b
  | .sub a i => nlE a && nlE i
  | .call _ es => nlEs es
  | _ => false
def nlEs : CEs → Bool
  | .nil => true
  | .cons false e r => nlE e && nlEs r
  | _ => false
end
/-- a comprehension's item that is a catcher's call with a closure of the frame -/
def clC (own : List Nat) (l : LLs) : CE → Bool
  | .cc _ (.var _) es _ => nlEs es && llFree own l
  | .sub (.cc _ (.var _) es _) (.con (.int 0)) => nlEs es && llFree own l
  | _ => false
mutual
def chkE (G : Ga) (sc : Scope) (w : Bool) : CE → Expr → Bool
  | .var i, .Name x _ => nmIs G.N i x && isVis sc x && okN x
  | .peek i, .Name x _ => w && (nmIs G.N i x && isVis sc x && okN x)
  | .con d, .Constant c _ _ => chkC c d
  | .gl y d, .Name x _ => x == y && isGl sc x && okN x && cnIs G x d
  | .tup es, .Tuple l _ _ => chkEs G sc es l
  | .lst es, .List l _ => chkEs G sc es l
  | .bin o a b, .BinOp l p r _ => p == opOf o && chkE G sc true a l && chkE G sc true b r
  | .neg a, .UnaryOp .USub l _ => chkE G sc false a l
  | .cmp o a b, .Compare l [p] [r] _ => p == cmOf o && chkE G sc true a l && chkE G sc true b r && !behindInMarks p r
  | .chain o o' a b c, .Compare l [p, p'] [r, r'] _ => p == cmOf o && p' == cmOf o' && chkE G sc true a l && chkE G sc true b r && chkE G sc true c r' && !lastMarks [p, p'] [r, r']
  | .and a b, .BoolOp .And (x :: y :: r) p => chkE G sc false a x && chkE G sc false b (.BoolOp .And (y :: r) p)
  | .or a b, .BoolOp .Or (x :: y :: r) p => chkE G sc false a x && chkE G sc false b (.BoolOp .Or (y :: r) p)
  | .one a, .BoolOp _ [x] _ => chkE G sc false a x
  | .not a, .UnaryOp .Not l _ => chkE G sc true a l
  | .ite c a b, .IfExp x y z _ => chkE G sc false c x && chkE G sc false a y && chkE G sc false b z
  | .sub a i, .Subscript x y _ => chkE G sc true a x && chkE G sc false i y && plainSub y
  | .sl a lo hi, .Subscript x (.Slice l h none _) _ => chkE G sc true a x && chkO G sc lo l && chkO G sc hi h
  | .rev a, .Subscript x (.Slice none none (some (.UnaryOp .USub (.Constant (.int 1) _ _) _)) _) _ => chkE G sc true a x
  | .call f es, .Call (.Name x _) (e :: l) [] _ => fnIs G f x && isGl sc x && okN x && chkAs G sc false es (e :: l)
  | .callk f es perm, .Call (.Name x _) [] (kw :: kws) _ => fnIs G f x && isGl sc x && okN x && kbIs G f (kw :: kws) perm && chkKs G sc es (kw :: kws)
  | .blt b es, .Call (.Name x _) (e :: l) [] _ => x == bltName b && isGl sc x && okN x && chkAs G sc true es (e :: l)
  | .isi t a, .Call (.Name x _) [e, .Name y _] [] _ => x == ("isinstance" : Str) && isGl sc x && y == tyName t && isGl sc y && plainE e && chkE G sc true a e
  | .lrng es, .Call (.Name x _) [.Call (.Name y _) l [] _] [] _ => x == ("list" : Str) && isGl sc x && y == ("range" : Str) && isGl sc y && chkAs G sc false es l && lenOk l
  | .trng es, .Call (.Name x _) [.Call (.Name y _) l [] _] [] _ => x == ("tuple" : Str) && isGl sc x && y == ("range" : Str) && isGl sc y && chkAs G sc false es l && lenOk l
  | .comp own tg it ifs elt, .ListComp x [⟨t, i, fs, 0⟩] scope _ => blkC G.N sc scope (chkOwn G.N own) && chkI G sc true it t i && tgIn own tg && chkT G.nl (fun x => scope.names.lookup x == some .cell) (relS scope sc) tg t && chkFs G.nl (relS scope sc) ifs fs && (chkE G.nl (relS scope sc) false elt x || (clC own G.lam elt && chkE G (relS scope sc) false elt x)) && itOk i
  | .comp2 own tg it ifs tg1 it1 ifs1 elt, .ListComp x [⟨t, i, fs, 0⟩, ⟨t1, i1, fs1, 0⟩] scope _ => blkC G.N sc scope (chkOwn G.N own) && chkI G sc true it t i && tgIn own tg && chkT G.nl (fun x => scope.names.lookup x == some .cell) (relS scope sc) tg t && chkFs G.nl (relS scope sc) ifs fs && chkI G.nl (relS scope sc) false it1 t1 i1 && tgIn own tg1 && chkT G.nl (fun x => scope.names.lookup x == some .cell) (relS scope sc) tg1 t1 && chkFs G.nl (relS scope sc) ifs1 fs1 && chkE G.nl (relS scope sc) false elt x && itOk i && itOk i1
  | .cnt a x, .Call (.Attribute (.Name z zp) m ap) [y] [] cp => m == ("count" : Str) && chkE G sc true a (.Name z zp) && plainE y && chkE G sc false x y && ap.endLine == cp.line
  | .idx a x, .Call (.Attribute (.Name z zp) m ap) [y] [] cp => m == ("index" : Str) && chkE G sc true a (.Name z zp) && plainE y && chkE G sc false x y && ap.endLine == cp.line
  | .dget a k z, .Call (.Attribute (.Name x xp) m ap) [e, f] [] cp => m == ("get" : Str) && chkE G sc false a (.Name x xp) && plainE e && plainE f && chkE G sc false k e && chkE G sc false z f && ap.endLine == cp.line
  | .dlitI is es, .Dict keys vals _ => chkKn G sc is keys && chkAs G sc false es vals && decide (keys.length = vals.length)
  | .sset a, .Call (.Name x _) [.Call (.Name y _) [e] [] _] [] _ => x == ("sorted" : Str) && isGl sc x && y == ("set" : Str) && isGl sc y && plainE e && chkE G sc true a e
  | .lam n, .Lambda params body scope _ => noArgs params && LamX.lamSB sc scope && (match lamAt G.lam n with
    | some (f, es) => chkLb G.nl scope f es body
    | none => false)
  | .cc g a es ls, .Call (.Name x _) (e :: l) [] _ => !isNilL G.lam && leq ls G.lam && fcIs G g x && isGl sc x && okN x && plainE e && chkE G sc false a e && chkAs G sc false es l
  | .excIs y a, .Call (.Name x _) [e, .Name z _] [] _ => x == ("isinstance" : Str) && isGl sc x && z == y && isGl sc z && okN z && G.er.contains y && plainE e && chkE G sc true a e
  | .excVal a, .Attribute (.Name x xp) m _ => m == ("value" : Str) && chkE G sc false a (.Name x xp)
  | .dlit ks es, .Dict keys vals _ => chkKy ks keys && chkAs G sc false es vals && decide (keys.length = vals.length)
  | _, _ => false
def chkEs (G : Ga) (sc : Scope) : CEs → List Expr → Bool
  | .nil, [] => true
  | .cons false c r, e :: es => plainE e && chkE G sc false c e && chkEs G sc r es
  | .cons true c r, .Starred e _ :: es => chkE G sc true c e && chkEs G sc r es
  | _, _ => false
/-- no star -/
def chkAs (G : Ga) (sc : Scope) (w : Bool) : CEs → List Expr → Bool
  | .nil, [] => true
  | .cons false c r, e :: es => plainE e && chkE G sc w c e && chkAs G sc w r es
  | _, _ => false
def chkFs (G : Ga) (sc : Scope) : CEs → List Expr → Bool
  | .nil, [] => true
  | .cons false c r, e :: es => chkE G sc false c e && chkFs G sc r es
  | _, _ => false
def chkKs (G : Ga) (sc : Scope) : CEs → List Keyword → Bool
  | .nil, [] => true
  | .cons false c r, ⟨_, e, _⟩ :: ks => chkE G sc false c e && chkKs G sc r ks
  | _, _ => false
def chkO (G : Ga) (sc : Scope) : CEo → Option Expr → Bool
  | .none, none => true
  | .some c, some e => chkE G sc false c e
  | _, _ => false
def chkI (G : Ga) (sc : Scope) (w : Bool) : CI → Expr → Expr → Bool
  | .rng es, _, .Call (.Name x _) (e :: l) [] _ => x == ("range" : Str) && isGl sc x && chkAs G sc false es (e :: l)
  | .enum c, .Tuple _ _ _, .Call (.Name x _) [e] [] _ => x == ("enumerate" : Str) && isGl sc x && plainE e && chkE G sc w c e
  | .zip a b, .Tuple _ _ _, .Call (.Name x _) [e, e'] [] _ => x == ("zip" : Str) && isGl sc x && plainE e && plainE e' && chkE G sc w a e && chkE G sc w b e'
  | .seq c, _, e => chkE G sc w c e
  | _, _, _ => false
end
mutual
theorem sck_chk {G : Ga} {sc : Scope} : ∀ {ce : CE} {e : Expr}, sckE G sc ce e = true → chkE G sc false ce e = true
  | .var i, e, h => by cases e <;> first | exact h | (simp [sckE] at h)
  | .con d, e, h => by cases e <;> first | exact h | (simp [sckE] at h)
  | .gl y d, e, h => by cases e <;> first | exact h | (simp [sckE] at h)
  | .neg a, e, h => by
    cases e
    case UnaryOp o l p =>
      cases o
      case USub => exact sck_chk (ce := a) h
      all_goals (simp [sckE] at h)
    all_goals (simp [sckE] at h)
  | .tup es, e, h => by
    cases e
    case Tuple l k p => exact scks_chk (es := es) h
    all_goals (simp [sckE] at h)
  | .peek .., e, h | .lst .., e, h | .bin .., e, h | .cmp .., e, h | .chain .., e, h | .and .., e, h | .or .., e, h | .one .., e, h | .not .., e, h | .ite .., e, h | .sub .., e, h | .sl .., e, h | .rev .., e, h | .call .., e, h | .callk .., e, h | .blt .., e, h | .isi .., e, h | .meth .., e, h | .lrng .., e, h | .trng .., e, h | .comp .., e, h | .comp2 .., e, h | .cnt .., e, h | .idx .., e, h | .sset .., e, h | .dlit .., e, h | .dlitI .., e, h | .dget .., e, h | .lam .., e, h | .cc .., e, h | .excIs .., e, h | .excVal .., e, h => by cases e <;> simp [sckE] at h
theorem scks_chk {G : Ga} {sc : Scope} : ∀ {es : CEs} {l : List Expr}, sckEs G sc es l = true → chkEs G sc es l = true
  | .nil, l, h => by cases l <;> first | rfl | (simp [sckEs] at h)
  | .cons true a r, l, h => by cases l <;> simp [sckEs] at h
  | .cons false a r, l, h => by
    cases l with
    | nil => simp [sckEs] at h
    | cons e es =>
      simp only [sckEs, Bool.and_eq_true] at h
      simp only [chkEs, Bool.and_eq_true]
      exact ⟨⟨h.1.1, sck_chk h.1.2⟩, scks_chk h.2⟩
end
theorem scks_as {G : Ga} {sc : Scope} : ∀ {es : CEs} {l : List Expr}, sckEs G sc es l = true → chkAs G sc false es l = true
  | .nil, l, h => by cases l <;> first | rfl | (simp [sckEs] at h)
  | .cons true a r, l, h => by cases l <;> simp [sckEs] at h
  | .cons false a r, l, h => by
    cases l with
    | nil => simp [sckEs] at h
    | cons e es =>
      simp only [sckEs, Bool.and_eq_true] at h
      simp only [chkAs, Bool.and_eq_true]
      exact ⟨⟨h.1.1, sck_chk h.1.2⟩, scks_as h.2⟩
end Ev

set_option Elab.async false
set_option linter.all false
set_option maxRecDepth 100000
set_option maxHeartbeats 2000000
/-! The term's value is the text's: expressions. -/
namespace Ev
variable [Zc]
open PySem PySem.Spec PyProof.Rows L2

theorem PEimp {X : Cx} {e : Expr} {t t' : TE} (h : PE X e t) (i : ∀ σ H Q, t' σ H Q → t σ H Q) : PE X e t' := ⟨fun pins s σ H Q I hw => h.run pins s σ H Q I (i σ H Q hw)⟩
theorem PTimp {X : Cx} {e : Expr} {t t' : TT} (h : PT X e t) (i : ∀ σ H Q, t' σ H Q → t σ H Q) : PT X e t' := ⟨fun pins s σ H Q I hw => h.run pins s σ H Q I (i σ H Q hw)⟩
theorem PAimp {X : Cx} {e : List Expr} {t t' : TA} (h : PA X e t) (i : ∀ σ H Q, t' σ H Q → t σ H Q) : PA X e t' := ⟨fun pos pins s σ H Q I hw => h.run pos pins s σ H Q I (i σ H Q hw)⟩

/-- .. and the cells know nothing of a new list -/
def RpS (K : PySem.W.Frag) (cs : List Addr) (Av : Addr → Prop) (H0 H : Hp) (st : Sto) (v : V) (r : RV) : Prop :=
  RpR K cs Av H0 H v r ∧ ∀ a ds, v = .ref a → r = .o ds → Cl K cs (Ev.add Av a) H st
section
variable {K : PySem.W.Frag} {cs : List Addr} {Av Av' : Addr → Prop} {H H' H1 H2 H0 : Hp} {v : V} {vs : List V} {d : D} {ds : List D} {st : Sto} {r : RV} {a : Addr}
theorem RpS.vv (h : Rp K cs Av H v d) : RpS K cs Av H0 H st v (.v d) := ⟨h, fun _ _ _ z => nomatch z⟩
theorem RpS.old (h : RpS K cs Av H1 H st v r) (e : Ext cs H2 H1) (ok : AvOk cs Av H1) : RpS K cs Av H2 H st v r := ⟨h.1.old e ok, h.2⟩
theorem RpS.fresh (h : RpR K cs Av H1 H v r) (e0 : Ext cs H2 H1) (ok : AvOk cs Av H1) (cl : Cl K cs Av H1 st) (e : Ext [] H1 H) : RpS K cs Av H2 H st v r := by
  refine ⟨h.old e0 ok, fun a ds h1 h2 => ?_⟩
  subst h2
  obtain ⟨b, vs, h3, h4, _⟩ := h
  rw [h1] at h3
  cases h3
  exact cl.new ok h4 e
end
/-- what a def promises: the evaluator's value -/
def spF (K : PySem.W.Frag) (g : List D → Sto → Option (RV × Sto)) (n : Nat) : Sp := fun vs H Q _ => vs.length = n ∧ ∃ (cs : List Addr) (Av : Addr → Prop) (ds : List D) (st : Sto) (r : RV) (st' : Sto),
  AvOk cs Av H ∧ Cl K cs Av H st ∧ Rps K cs Av H vs ds ∧ g ds st = some (r, st') ∧ ∀ v H', Ext cs H H' → Cl K cs Av H' st' → RpS K cs Av H H' st' v r → Q v H'
/-- what a def promises to raise -/
def spX (K : PySem.W.Frag) (g : List D → Sto → Option (RV × Sto)) (n : Nat) : Sp := fun vs H _ E => vs.length = n ∧ ∃ (cs : List Addr) (Av : Addr → Prop) (ds : List D) (st : Sto) (c : Str) (d : D) (st' : Sto),
  AvOk cs Av H ∧ Cl K cs Av H st ∧ Rps K cs Av H vs ds ∧ exOf (g ds st) = some (c, d, st') ∧ ∀ dd v H', Ext cs H H' → Cl K cs Av H' st' → c ∈ Zc.er → H' dd = some (.xd [("value", v)]) → Rp K cs Av H' v d → E (.ref (He.ga K c)) (some dd) H'
/-- an outcome is reached -/
def OcP (K : PySem.W.Frag) (Av : Addr → Prop) (H : Hp) (Q : VK) (E : XK) : Oc → Prop
  | .val d => ∀ v H', Ext [] H H' → Rp K [] Av H' v d → Q v H'
  | .exc c d => ∀ dd v H', Ext [] H H' → c ∈ Zc.er → H' dd = some (.xd [("value", v)]) → Rp K [] Av H' v d → E (.ref (He.ga K c)) (some dd) H'
def spO (K : PySem.W.Frag) (g : List D → Sto → Option (RV × Sto)) (n : Nat) : Sp := fun vs H Q E => vs.length = n ∧ ∃ (Av : Addr → Prop) (ds : List D) (o : Oc) (st' : Sto),
  AvOk [] Av H ∧ Rps K [] Av H vs ds ∧ g ds [] = some (.v o.d, st') ∧ OcP K Av H Q E o
/-- what a closure at f promises, seen from s and H, under the frames outer -/
structure ClP (P : Program) (w : World) (K : PySem.W.Frag) (mg : Str → Option Value) (base : Heap) (j : Nat) (outer : List Env) (s : Shared) (H : Hp) (Av : Addr → Prop) (f : Addr) (o : Oc) : Prop where
  at_ : ∃ ob u, H f = some (.frz ob u) ∧ ∀ h : Heap, h.get? f = some ob → PySem.W.FnAt f h
  run : ∀ (A : Around) (out : List Env) (s' : Shared) (H' : Hp) (Q : VK) (E : XK), Room j A → A.guards = some [] → Env0 P w K mg base A out s' H' → Un (frs outer) [] H H' s.heap s'.heap → AvOk [] Av H' → Ext [] H H' → OcP K Av H' Q E o →
    codeAny (model P w) A (.call (.ref f) ⟨[], []⟩) (CR (L2.CX P w) out P w H' s' Q E) s'
/-- a def whose first parameter is a closure -/
structure FnC (P : Program) (w : World) (K : PySem.W.Frag) (mg : Str → Option Value) (base : Heap) (dl k : Nat) (a : Addr) (fd : FuncData) (ps : List Str) (g : List D → Sto → Option (RV × Sto)) : Prop where
  run : ∀ (A : Around) (outer : List Env) (s : Shared) (H : Hp) (args : Args) (f : Addr) (us : List Value) (vs : List V) (Q : VK) (j : Nat) (cs : List Addr) (Av : Addr → Prop) (o : Oc) (ds : List D) (st : Sto) (r : RV) (st' : Sto), Room k A → A.guards = some [] → Env0 P w K mg base A outer s H →
    BindsTo s fd args (ps.zip (.ref f :: us)) → Vals vs us → j + dl ≤ k → ClP P w K mg base j outer s H Av f o → vs.length + 1 = ps.length → AvOk cs Av H → Cl K cs Av H st → Rps K cs Av H vs ds → g (o.d :: ds) st = some (r, st') →
    (∀ v H', Ext cs H H' → Cl K cs Av H' st' → RpS K cs Av H H' st' v r → Q v H') → codeAny (model P w) A (.call (.ref a) args) (CR CX0 outer P w H s Q E0) s
def bltNames : List Str := ["len", "abs", "max", "min", "int", "str", "repr", "tuple", "list", "sorted", "sum", "all", "any", "isinstance", "bool", "range", "enumerate", "zip", "set"]
/-- the ground: what the module's names stand for -/
structure Gd (P : Program) (w : World) (K : PySem.W.Frag) (mg : Str → Option Value) (base : Heap) (G : Ga) (F : FT) (k : Nat) : Prop where
  blt : ∀ x ∈ bltNames, mg x = none
  cn : ∀ x d, G.cn.lookup x = some d → ∃ u v, mg x = some u ∧ RelV v u ∧ ∀ cs Av H, Rp K cs Av H v d
  fn : ∀ f x, G.fn.lookup f = some x → ∃ a fd ps, mg x = some (.ref a) ∧ PySem.W.keepIn K (.ref a) = true ∧ FnG P w K mg base k a fd ps (spF K (F f) ps.length) ∧ Binds K fd ps [] ∧ (∀ ds st r, F f ds st = some r → ds.length = ps.length) ∧
    ∀ ks perm, (f, ks, perm) ∈ G.kb → perm.length = ps.length ∧ ∀ ws : List Value, ws.length = ks.length → bindArgs fd ⟨[], ks.zip ws⟩ = pure (ps.zip (perm.map fun i => ws.getD i .none))
/-- .. and of what is raised, of closures -/
structure GdX (P : Program) (w : World) (K : PySem.W.Frag) (mg : Str → Option Value) (base : Heap) (G : Ga) (F : FT) (k : Nat) : Prop where
  g : Gd P w K mg base G F k
  eq : G.er = Zc.er
  er : Ers P K mg G.er
  fx : ∀ f x, G.fn.lookup f = some x → ∃ a fd ps, mg x = some (.ref a) ∧ PySem.W.keepIn K (.ref a) = true ∧ FnX P w K mg base k a fd ps (spX K (F (f + B0)) ps.length) ∧ Binds K fd ps [] ∧ (∀ ds st r, F (f + B0) ds st = some r → ds.length = ps.length) ∧
    ∀ ks perm, (f, ks, perm) ∈ G.kb → perm.length = ps.length ∧ ∀ ws : List Value, ws.length = ks.length → bindArgs fd ⟨[], ks.zip ws⟩ = pure (ps.zip (perm.map fun i => ws.getD i .none))
  cl : ∀ f x, G.fn.lookup f = some x → ∃ a fd ps, mg x = some (.ref a) ∧ PySem.W.keepIn K (.ref a) = true ∧ FnX P w K mg base (k - 4) a fd ps (spO K (F (f + 5 * B0)) ps.length) ∧ Binds K fd ps [] ∧ (∀ ds st r, F (f + 5 * B0) ds st = some r → ds.length = ps.length)
  fc : ∀ f x, G.fc.lookup f = some x → ∃ a fd ps, mg x = some (.ref a) ∧ PySem.W.keepIn K (.ref a) = true ∧ FnC P w K mg base 1 k a fd ps (F f) ∧ Binds K fd ps [] ∧ (∀ ds st r, F f ds st = some r → ds.length = ps.length)
  fd : ∀ f x, G.fd.lookup f = some x → ∃ a fd ps, mg x = some (.ref a) ∧ PySem.W.keepIn K (.ref a) = true ∧ FnC P w K mg base 2 k a fd ps (F f) ∧ Binds K fd ps [] ∧ (∀ ds st r, F f ds st = some r → ds.length = ps.length)
  kk : ∀ f x ds r, G.fn.lookup f = some x → F (f + 5 * B0) ds [] = some r → 5 ≤ k ∧ ∃ o : Oc, r.1 = .v o.d
/-- what an object is that a frame's lambda made -/
def LamZ (G : Ga) (env : Env) (o : Obj) (n : Nat) (c : Addr) (q : Str) : Prop := q = env.qual ++ "<lambda>" ∧ ∃ (params : Arguments) (body : Expr) (scope : Scope) (pm ctv : Value) (f : Nat) (es : CEs),
  o = PySem.W.kla_obj "<lambda>" q params body scope (cloFrom env.cells scope.names []) pm c ctv ∧ lamAt G.lam n = some (f, es) ∧ chkLb G.nl scope f es body = true ∧ LamX.LamS env.scope scope ∧ noArgs params = true
structure LmOk (G : Ga) (X : Cx) : Prop where
  code : ∃ c P, X.env.code = .ref c ∧ LamX.TabB X.base X.mg c P ∧ (P, X.env.qual ++ "<lambda>") ∈ Zc.T ∧ ∀ p ∈ Zc.T, p.1 = P → p.2 = X.env.qual ++ "<lambda>"
  z : ∀ o n c q, Zc.z o n c q ↔ LamZ G X.env o n c q
  stk : X.stack = X.env :: X.outer
structure Cd (G : Ga) (F : FT) (k : Nat) (X : Cx) : Prop where
  N : X.N = G.N
  calm : X.calm = true
  gd : X.A.guards = some []
  rm : Room k X.A
  nd : G.N.Nodup
  gx : GdX X.prog X.w X.K X.mg X.base G F k
  lm : G.lam ≠ .nil → LmOk G X
theorem Cd.g {G : Ga} {F : FT} {k : Nat} {X : Cx} (c : Cd G F k X) : Gd X.prog X.w X.K X.mg X.base G F k := c.gx.g
theorem GdX.nl {P : Program} {w : World} {K : PySem.W.Frag} {mg : Str → Option Value} {base : Heap} {G : Ga} {F : FT} {k : Nat} (g : GdX P w K mg base G F k) : GdX P w K mg base G.nl F k :=
  ⟨⟨g.g.blt, g.g.cn, g.g.fn⟩, g.eq, g.er, g.fx, g.cl, g.fc, g.fd, g.kk⟩
theorem Cd.u {G : Ga} {F : FT} {k : Nat} {X : Cx} (c : Cd G F k X) : X.A.units + 100 < cLine := by
  have := c.rm.un
  omega

def tS (K : PySem.W.Frag) (F : FT) (ce : CE) : TE := fun σ H Q => ∃ (cs : List Addr) (Av : Addr → Prop) (ρ : Rho) (st : Sto) (r : RV) (st' : Sto),
  AvOk cs Av H ∧ Cl K cs Av H st ∧ En K cs Av H σ ρ ∧ evE F ce ρ st = some (r, st') ∧ ∀ v H', Ext cs H H' → Cl K cs Av H' st' → RpS K cs Av H H' st' v r → Q v H'
def tW (K : PySem.W.Frag) (F : FT) (ce : CE) : TE := fun σ H Q => ∃ (cs : List Addr) (Av : Addr → Prop) (ρ : Rho) (st : Sto) (r : RV) (st' : Sto),
  AvOk cs Av H ∧ Cl K cs Av H st ∧ En K cs Av H σ ρ ∧ evE F ce ρ st = some (r, st') ∧ ∀ v H', Ext cs H H' → Cl K cs Av H' st' → Rw K cs Av H' v r.d → Q v H'
def tT (K : PySem.W.Frag) (F : FT) (ce : CE) : TT := fun σ H Q => ∃ (cs : List Addr) (Av : Addr → Prop) (ρ : Rho) (st : Sto) (r : RV) (st' : Sto) (b : Bool),
  AvOk cs Av H ∧ Cl K cs Av H st ∧ En K cs Av H σ ρ ∧ evE F ce ρ st = some (r, st') ∧ truth r.d = some b ∧ ∀ H', Ext cs H H' → Cl K cs Av H' st' → Q b H'
def tAs (K : PySem.W.Frag) (F : FT) (ces : CEs) : TA := fun σ H Q => ∃ (cs : List Addr) (Av : Addr → Prop) (ρ : Rho) (st : Sto) (ds : List D) (st' : Sto),
  AvOk cs Av H ∧ Cl K cs Av H st ∧ En K cs Av H σ ρ ∧ evEs F ces ρ st = some (ds, st') ∧ ∀ vs H', Ext cs H H' → Cl K cs Av H' st' → Rps K cs Av H' vs ds → Q vs H'
def tAw (K : PySem.W.Frag) (F : FT) (ces : CEs) : TA := fun σ H Q => ∃ (cs : List Addr) (Av : Addr → Prop) (ρ : Rho) (st : Sto) (ds : List D) (st' : Sto),
  AvOk cs Av H ∧ Cl K cs Av H st ∧ En K cs Av H σ ρ ∧ evEs F ces ρ st = some (ds, st') ∧ ∀ vs H', Ext cs H H' → Cl K cs Av H' st' → Rws K cs Av H' vs ds → Q vs H'

section
variable {K : PySem.W.Frag} {cs : List Addr} {Av : Addr → Prop} {H H0 H' H1 H2 : Hp} {v : V} {vs : List V} {d : D} {ds : List D} {st st' : Sto} {σ : L2.St} {ρ : Rho} {r : RV}
theorem AvOk.there (ok : AvOk cs Av H) : ∀ a, Av a → ∃ o, H a = some o := fun a h => by
  obtain ⟨xs, q⟩ := ok.lst a h
  exact ⟨_, q⟩
theorem RpR.w (ok : AvOk cs Av H0) (h : RpR K cs Av H0 H v r) : Rw K cs Av H v r.d := .inl (h.rp ok.there)
theorem Rws.ext (ok : AvOk cs Av H) (e : Ext cs H H') : ∀ {vs : List V} {ds : List D}, Rws K cs Av H vs ds → Rws K cs Av H' vs ds
  | _, _, .nil => .nil
  | _, _, .cons r t => .cons (r.ext ok e) (Rws.ext ok e t)
theorem Rws.of : ∀ {vs : List V} {ds : List D}, Rps K cs Av H vs ds → Rws K cs Av H vs ds
  | _, _, .nil => .nil
  | _, _, .cons r t => .cons (.inl r) (Rws.of t)
theorem star_plain {e : Expr} (h : plainE e = true) (es : List Expr) (env : Env) : starEach (e :: es) env = (false, eval e env) :: starEach es env := by
  cases e <;> first | rfl | simp [plainE] at h
theorem nostar_any {pos : Pos} {env : Env} : ∀ {l : List Expr}, l.all plainE = true → (backTo pos (starEach l env)).any (·.1) = false
  | [], _ => rfl
  | e :: es, h => by
    simp only [List.all_cons, Bool.and_eq_true] at h
    rw [star_plain h.1]
    show (false || (backTo pos (starEach es env)).any (·.1)) = false
    rw [nostar_any h.2]
    rfl
theorem chkAs_plain {G : Ga} {sc : Scope} {w : Bool} : ∀ {es : CEs} {l : List Expr}, chkAs G sc w es l = true → l.all plainE = true
  | .nil, [], _ => rfl
  | .nil, _ :: _, h => by simp [chkAs] at h
  | .cons true _ _, _, h => by simp [chkAs] at h
  | .cons false _ _, [], h => by simp [chkAs] at h
  | .cons false c r, e :: es, h => by
    simp only [chkAs, Bool.and_eq_true] at h
    simp [h.1.1, chkAs_plain h.2]
end
theorem nmIs_of {N : List Str} {i : Nat} {x : Str} (h : nmIs N i x = true) : N[i]? = some x := by
  unfold nmIs at h
  split at h
  · rename_i y e
    rw [e, eq_of_beq h]
  · cases h
theorem isVis_of {sc : Scope} {x : Str} (h : isVis sc x = true) : Vis sc x := by
  unfold isVis at h
  split at h
  · exact .inl (by assumption)
  · exact .inr (.inl (by assumption))
  · exact .inr (.inr (by assumption))
  · cases h
theorem isGl_of {X : Cx} {x : Str} (h : isGl X.env.scope x = true) : Gl X x := by
  unfold isGl at h
  split at h
  · assumption
  · cases h
theorem okN_of {x : Str} (h : okN x = true) : (x == ("__debug__" : Str)) = false ∧ (x == ("__classdict__" : Str)) = false ∧ x ≠ ("__name__" : Str) := by
  unfold okN at h
  simp only [Bool.and_eq_true, bne_iff_ne, ne_eq] at h
  obtain ⟨⟨h1, h2⟩, h3⟩ := h
  exact ⟨by simpa using h1, by simpa using h2, h3⟩
section
variable {G : Ga} {F : FT} {k : Nat} {X : Cx}
theorem var_ok (c : Cd G F k X) {i : Nat} {x : Str} {pos : Pos} (h : (nmIs G.N i x && isVis X.env.scope x && okN x) = true) : PE X (.Name x pos) (tVar i) := by
  simp only [Bool.and_eq_true] at h
  obtain ⟨⟨h1, h2⟩, h3⟩ := h
  obtain ⟨o1, o2, o3⟩ := okN_of h3
  exact pe_var (by rw [c.N]; exact nmIs_of h1) (isVis_of h2) o1 o2
theorem slot_v {K : PySem.W.Frag} {cs : List Addr} {Av : Addr → Prop} {H : Hp} {σ : L2.St} {ρ : Rho} {i : Nat} {d : D} (en : En K cs Av H σ ρ) (h : ρ[i]? = some (some (.v d))) : ∃ x, σ[i]? = some (some x) ∧ Rp K cs Av H x d := by
  have := en.at_ i
  rw [h] at this
  exact this
theorem slot_o {K : PySem.W.Frag} {cs : List Addr} {Av : Addr → Prop} {H : Hp} {σ : L2.St} {ρ : Rho} {i : Nat} {d : List D} (en : En K cs Av H σ ρ) (h : ρ[i]? = some (some (.o d))) : ∃ a vs, σ[i]? = some (some (.ref a)) ∧ Av a ∧ a ∉ cs ∧ H a = some (.lst vs) ∧ Rps K cs Av H vs d := by
  have := en.at_ i
  rw [h] at this
  exact this
theorem con_ok {c : Const} {d : D} {kk : Nat} {pos : Pos} (h : chkC c d = true) : ∃ v, PE X (.Constant c kk pos) (tC v) ∧ ∀ K cs Av H, Rp K cs Av H v d := by
  unfold chkC at h
  split at h
  · exact ⟨_, pe_non, fun _ _ _ _ => .non⟩
  · rw [eq_of_beq h]; exact ⟨_, pe_bl, fun _ _ _ _ => .bl _⟩
  · rw [eq_of_beq h]; exact ⟨_, pe_int, fun _ _ _ _ => .int _⟩
  · rw [eq_of_beq h]; exact ⟨_, pe_str, fun _ _ _ _ => .str _⟩
  · cases h
theorem blt_ok (c : Cd G F k X) (b : Bl) : X.mg (bltName b) = none := c.g.blt _ (by cases b <;> simp [bltName, bltNames])
theorem bltV_boot (b : Bl) : (∃ n, bltV b = .builtin n ∧ bootBuiltins (bltName b) = some (.builtin n)) ∨ (∃ n, bltV b = .type n ∧ bootBuiltins (bltName b) = some (.type n)) := by
  cases b
  all_goals first
    | exact .inl ⟨_, rfl, by decide +kernel⟩
    | exact .inr ⟨_, rfl, by decide +kernel⟩
end

end Ev

set_option Elab.async false
set_option linter.all false
set_option maxRecDepth 100000
set_option maxHeartbeats 4000000
/-! The term's value is the text's: expressions, by induction. -/
namespace Ev
variable [Zc]
open PySem PySem.Spec PyProof.Rows L2
theorem ff {p : Prop} (h : false = true) : p := Bool.noConfusion h
section
variable {G : Ga} {sc : Scope} {e : Expr} {w : Bool}
theorem inv_var {i} (h : chkE G sc w (.var i) e = true) : ∃ x p, e = .Name x p ∧ (nmIs G.N i x && isVis sc x && okN x) = true := by
  cases e
  case Name x p => exact ⟨x, p, rfl, h⟩
  all_goals exact ff h
theorem inv_peek {i} (h : chkE G sc w (.peek i) e = true) : w = true ∧ ∃ x p, e = .Name x p ∧ (nmIs G.N i x && isVis sc x && okN x) = true := by
  cases e
  case Name x p =>
    have h' : (w && (nmIs G.N i x && isVis sc x && okN x)) = true := h
    rw [Bool.and_eq_true] at h'
    exact ⟨h'.1, x, p, rfl, h'.2⟩
  all_goals exact ff h
theorem inv_con {d} (h : chkE G sc w (.con d) e = true) : ∃ c j p, e = .Constant c j p ∧ chkC c d = true := by
  cases e
  case Constant c j p => exact ⟨c, j, p, rfl, h⟩
  all_goals exact ff h
theorem inv_gl {y d} (h : chkE G sc w (.gl y d) e = true) : ∃ x p, e = .Name x p ∧ isGl sc x = true ∧ okN x = true ∧ cnIs G x d = true := by
  cases e
  case Name x p =>
    have h' : (x == y && isGl sc x && okN x && cnIs G x d) = true := h
    simp only [Bool.and_eq_true] at h'
    exact ⟨x, p, rfl, h'.1.1.2, h'.1.2, h'.2⟩
  all_goals exact ff h
theorem inv_tup {es} (h : chkE G sc w (.tup es) e = true) : ∃ l k p, e = .Tuple l k p ∧ chkEs G sc es l = true := by
  cases e
  case Tuple l k p => exact ⟨l, k, p, rfl, h⟩
  all_goals exact ff h
theorem inv_lst {es} (h : chkE G sc w (.lst es) e = true) : ∃ l p, e = .List l p ∧ chkEs G sc es l = true := by
  cases e
  case List l p => exact ⟨l, p, rfl, h⟩
  all_goals exact ff h
theorem inv_bin {o a b} (h : chkE G sc w (.bin o a b) e = true) : ∃ l r p, e = .BinOp l (opOf o) r p ∧ chkE G sc true a l = true ∧ chkE G sc true b r = true := by
  cases e
  case BinOp l q r p =>
    have h' : (q == opOf o && chkE G sc true a l && chkE G sc true b r) = true := h
    simp only [Bool.and_eq_true] at h'
    exact ⟨l, r, p, by rw [eq_of_beq h'.1.1], h'.1.2, h'.2⟩
  all_goals exact ff h
theorem inv_neg {a} (h : chkE G sc w (.neg a) e = true) : ∃ l p, e = .UnaryOp .USub l p ∧ chkE G sc false a l = true := by
  cases e
  case UnaryOp q l p =>
    cases q
    case USub => exact ⟨l, p, rfl, h⟩
    all_goals exact ff h
  all_goals exact ff h
theorem inv_not {a} (h : chkE G sc w (.not a) e = true) : ∃ l p, e = .UnaryOp .Not l p ∧ chkE G sc true a l = true := by
  cases e
  case UnaryOp q l p =>
    cases q
    case Not => exact ⟨l, p, rfl, h⟩
    all_goals exact ff h
  all_goals exact ff h
theorem inv_cmp {o a b} (h : chkE G sc w (.cmp o a b) e = true) : ∃ l r p, e = .Compare l [cmOf o] [r] p ∧ chkE G sc true a l = true ∧ chkE G sc true b r = true ∧ behindInMarks (cmOf o) r = false := by
  cases e
  case Compare l qs rs p =>
    match qs, rs, h with
    | [q], [r], h =>
      have h' : (q == cmOf o && chkE G sc true a l && chkE G sc true b r && !behindInMarks q r) = true := h
      simp only [Bool.and_eq_true] at h'
      obtain ⟨⟨⟨h1, h2⟩, h3⟩, h4⟩ := h'
      obtain rfl := eq_of_beq h1
      exact ⟨l, r, p, rfl, h2, h3, by simpa using h4⟩
    | [], _, h => cases a <;> exact ff h
    | [_], [], h => exact ff h
    | [_], _ :: _ :: _, h => exact ff h
    | _ :: _ :: _, _, h => exact ff h
  all_goals exact ff h
theorem inv_chain {o o' a b c} (h : chkE G sc w (.chain o o' a b c) e = true) : ∃ l r r' p, e = .Compare l [cmOf o, cmOf o'] [r, r'] p ∧ chkE G sc true a l = true ∧ chkE G sc true b r = true ∧ chkE G sc true c r' = true ∧ lastMarks [cmOf o, cmOf o'] [r, r'] = false := by
  cases e
  case Compare l qs rs p =>
    match qs, rs, h with
    | [q, q'], [r, r'], h =>
      have h' : (q == cmOf o && q' == cmOf o' && chkE G sc true a l && chkE G sc true b r && chkE G sc true c r' && !lastMarks [q, q'] [r, r']) = true := h
      simp only [Bool.and_eq_true] at h'
      obtain ⟨⟨⟨⟨⟨h1, h1'⟩, h2⟩, h3⟩, h4⟩, h5⟩ := h'
      obtain rfl := eq_of_beq h1
      obtain rfl := eq_of_beq h1'
      exact ⟨l, r, r', p, rfl, h2, h3, h4, by simpa using h5⟩
    | [], _, h => exact ff h
    | [_], _, h => exact ff h
    | [_, _], [], h => exact ff h
    | [_, _], [_], h => exact ff h
    | [_, _], _ :: _ :: _ :: _, h => exact ff h
    | _ :: _ :: _ :: _, _, h => exact ff h
  all_goals exact ff h
theorem inv_and {a b} (h : chkE G sc w (.and a b) e = true) : ∃ x y r p, e = .BoolOp .And (x :: y :: r) p ∧ chkE G sc false a x = true ∧ chkE G sc false b (.BoolOp .And (y :: r) p) = true := by
  cases e
  case BoolOp q xs p =>
    match q, xs, h with
    | .And, x :: y :: r, h =>
      have h' : (chkE G sc false a x && chkE G sc false b (.BoolOp .And (y :: r) p)) = true := h
      rw [Bool.and_eq_true] at h'
      exact ⟨x, y, r, p, rfl, h'.1, h'.2⟩
    | .And, [], h => exact ff h
    | .And, [_], h => exact ff h
    | .Or, _, h => exact ff h
  all_goals exact ff h
theorem inv_or {a b} (h : chkE G sc w (.or a b) e = true) : ∃ x y r p, e = .BoolOp .Or (x :: y :: r) p ∧ chkE G sc false a x = true ∧ chkE G sc false b (.BoolOp .Or (y :: r) p) = true := by
  cases e
  case BoolOp q xs p =>
    match q, xs, h with
    | .Or, x :: y :: r, h =>
      have h' : (chkE G sc false a x && chkE G sc false b (.BoolOp .Or (y :: r) p)) = true := h
      rw [Bool.and_eq_true] at h'
      exact ⟨x, y, r, p, rfl, h'.1, h'.2⟩
    | .Or, [], h => exact ff h
    | .Or, [_], h => exact ff h
    | .And, _, h => exact ff h
  all_goals exact ff h
theorem inv_one {a} (h : chkE G sc w (.one a) e = true) : ∃ q x p, e = .BoolOp q [x] p ∧ chkE G sc false a x = true := by
  cases e
  case BoolOp q xs p =>
    match xs, h with
    | [x], h => exact ⟨q, x, p, rfl, h⟩
    | [], h => exact ff h
    | _ :: _ :: _, h => exact ff h
  all_goals exact ff h
theorem inv_ite {c a b} (h : chkE G sc w (.ite c a b) e = true) : ∃ x y z p, e = .IfExp x y z p ∧ chkE G sc false c x = true ∧ chkE G sc false a y = true ∧ chkE G sc false b z = true := by
  cases e
  case IfExp x y z p =>
    have h' : (chkE G sc false c x && chkE G sc false a y && chkE G sc false b z) = true := h
    simp only [Bool.and_eq_true] at h'
    exact ⟨x, y, z, p, rfl, h'.1.1, h'.1.2, h'.2⟩
  all_goals exact ff h
theorem inv_sub {a i} (h : chkE G sc w (.sub a i) e = true) : ∃ x y p, e = .Subscript x y p ∧ chkE G sc true a x = true ∧ chkE G sc false i y = true ∧ plainSub y = true := by
  cases e
  case Subscript x y p =>
    have h' : (chkE G sc true a x && chkE G sc false i y && plainSub y) = true := h
    simp only [Bool.and_eq_true] at h'
    exact ⟨x, y, p, rfl, h'.1.1, h'.1.2, h'.2⟩
  all_goals exact ff h
theorem inv_sl {a lo hi} (h : chkE G sc w (.sl a lo hi) e = true) : ∃ x l u p2 p, e = .Subscript x (.Slice l u none p2) p ∧ chkE G sc true a x = true ∧ chkO G sc lo l = true ∧ chkO G sc hi u = true := by
  cases e
  case Subscript x y p =>
    cases y
    case Slice l u st p2 =>
      cases st
      case none =>
        have h' : (chkE G sc true a x && chkO G sc lo l && chkO G sc hi u) = true := h
        simp only [Bool.and_eq_true] at h'
        exact ⟨x, l, u, p2, p, rfl, h'.1.1, h'.1.2, h'.2⟩
      case some => exact ff h
    all_goals exact ff h
  all_goals exact ff h
theorem inv_call {f es} (h : chkE G sc w (.call f es) e = true) : ∃ x p y l p', e = .Call (.Name x p) (y :: l) [] p' ∧ fnIs G f x = true ∧ isGl sc x = true ∧ okN x = true ∧ chkAs G sc false es (y :: l) = true := by
  cases e
  case Call g as ks p' =>
    match g, as, ks, h with
    | .Name x p, y :: l, [], h =>
      have h' : (fnIs G f x && isGl sc x && okN x && chkAs G sc false es (y :: l)) = true := h
      simp only [Bool.and_eq_true] at h'
      exact ⟨x, p, y, l, p', rfl, h'.1.1.1, h'.1.1.2, h'.1.2, h'.2⟩
    | g, [], ks, h => cases g <;> exact ff h
    | g, _ :: _, _ :: _, h => cases g <;> exact ff h
    | g, _ :: _, [], h =>
      cases g
      case Name x p =>
        rename_i y l
        have h' : (fnIs G f x && isGl sc x && okN x && chkAs G sc false es (y :: l)) = true := h
        simp only [Bool.and_eq_true] at h'
        exact ⟨x, p, y, l, p', rfl, h'.1.1.1, h'.1.1.2, h'.1.2, h'.2⟩
      all_goals exact ff h
  all_goals exact ff h
theorem inv_blt {b es} (h : chkE G sc w (.blt b es) e = true) : ∃ p y l p', e = .Call (.Name (bltName b) p) (y :: l) [] p' ∧ isGl sc (bltName b) = true ∧ okN (bltName b) = true ∧ chkAs G sc true es (y :: l) = true := by
  cases e
  case Call g as ks p' =>
    cases g
    case Name x p =>
      match as, ks, h with
      | y :: l, [], h =>
        have h' : (x == bltName b && isGl sc x && okN x && chkAs G sc true es (y :: l)) = true := h
        simp only [Bool.and_eq_true] at h'
        obtain ⟨⟨⟨h1, h2⟩, h3⟩, h4⟩ := h'
        obtain rfl := eq_of_beq h1
        exact ⟨p, y, l, p', rfl, h2, h3, h4⟩
      | [], _, h => exact ff h
      | _ :: _, _ :: _, h => exact ff h
    all_goals exact ff h
  all_goals exact ff h
theorem inv_cnt {a x} (h : chkE G sc w (.cnt a x) e = true) : ∃ z zp ap y cp, e = .Call (.Attribute (.Name z zp) "count" ap) [y] [] cp ∧ chkE G sc true a (.Name z zp) = true ∧ plainE y = true ∧ chkE G sc false x y = true ∧ (ap.endLine == cp.line) = true := by
  cases e
  case Call g as ks cp =>
    cases g
    case Attribute o m ap =>
      cases o
      case Name z zp =>
        match as, ks, h with
        | [y], [], h =>
          have h' : (m == ("count" : Str) && chkE G sc true a (.Name z zp) && plainE y && chkE G sc false x y && ap.endLine == cp.line) = true := h
          simp only [Bool.and_eq_true] at h'
          obtain ⟨⟨⟨⟨h1, h2⟩, h3⟩, h4⟩, h5⟩ := h'
          obtain rfl := eq_of_beq h1
          exact ⟨z, zp, ap, y, cp, rfl, h2, h3, h4, h5⟩
        | [], _, h => exact ff h
        | _ :: _ :: _, _, h => exact ff h
        | [_], _ :: _, h => exact ff h
      all_goals exact ff h
    all_goals exact ff h
  all_goals exact ff h
theorem inv_idx {a x} (h : chkE G sc w (.idx a x) e = true) : ∃ z zp ap y cp, e = .Call (.Attribute (.Name z zp) "index" ap) [y] [] cp ∧ chkE G sc true a (.Name z zp) = true ∧ plainE y = true ∧ chkE G sc false x y = true ∧ (ap.endLine == cp.line) = true := by
  cases e
  case Call g as ks cp =>
    cases g
    case Attribute o m ap =>
      cases o
      case Name z zp =>
        match as, ks, h with
        | [y], [], h =>
          have h' : (m == ("index" : Str) && chkE G sc true a (.Name z zp) && plainE y && chkE G sc false x y && ap.endLine == cp.line) = true := h
          simp only [Bool.and_eq_true] at h'
          obtain ⟨⟨⟨⟨h1, h2⟩, h3⟩, h4⟩, h5⟩ := h'
          obtain rfl := eq_of_beq h1
          exact ⟨z, zp, ap, y, cp, rfl, h2, h3, h4, h5⟩
        | [], _, h => exact ff h
        | _ :: _ :: _, _, h => exact ff h
        | [_], _ :: _, h => exact ff h
      all_goals exact ff h
    all_goals exact ff h
  all_goals exact ff h
theorem inv_dget {a k z} (h : chkE G sc w (.dget a k z) e = true) : ∃ x xp ap y f cp, e = .Call (.Attribute (.Name x xp) "get" ap) [y, f] [] cp ∧ chkE G sc false a (.Name x xp) = true ∧ plainE y = true ∧ plainE f = true ∧ chkE G sc false k y = true ∧ chkE G sc false z f = true ∧ (ap.endLine == cp.line) = true := by
  cases e
  case Call g as ks cp =>
    cases g
    case Attribute o m ap =>
      cases o
      case Name x xp =>
        match as, ks, h with
        | [y, f], [], h =>
          have h' : (m == ("get" : Str) && chkE G sc false a (.Name x xp) && plainE y && plainE f && chkE G sc false k y && chkE G sc false z f && ap.endLine == cp.line) = true := h
          simp only [Bool.and_eq_true] at h'
          obtain ⟨⟨⟨⟨⟨⟨h1, h2⟩, h3⟩, h4⟩, h5⟩, h6⟩, h7⟩ := h'
          obtain rfl := eq_of_beq h1
          exact ⟨x, xp, ap, y, f, cp, rfl, h2, h3, h4, h5, h6, h7⟩
        | [], _, h => exact ff h
        | [_], _, h => exact ff h
        | _ :: _ :: _ :: _, _, h => exact ff h
        | [_, _], _ :: _, h => exact ff h
      all_goals exact ff h
    all_goals exact ff h
  all_goals exact ff h
theorem inv_dlitI {is es} (h : chkE G sc w (.dlitI is es) e = true) : ∃ keys vals p, e = .Dict keys vals p ∧ chkKn G sc is keys = true ∧ chkAs G sc false es vals = true ∧ keys.length = vals.length := by
  cases e
  case Dict keys vals p =>
    have h' : (chkKn G sc is keys && chkAs G sc false es vals && decide (keys.length = vals.length)) = true := h
    simp only [Bool.and_eq_true, decide_eq_true_eq] at h'
    exact ⟨keys, vals, p, rfl, h'.1.1, h'.1.2, h'.2⟩
  all_goals exact ff h
theorem inv_sset {a} (h : chkE G sc w (.sset a) e = true) : ∃ p p2 y p3 p4, e = .Call (.Name "sorted" p) [.Call (.Name "set" p2) [y] [] p3] [] p4 ∧ isGl sc "sorted" = true ∧ isGl sc "set" = true ∧ plainE y = true ∧ chkE G sc true a y = true := by
  cases e
  case Call g as ks p4 =>
    cases g
    case Name x p =>
      match as, ks, h with
      | [.Call (.Name z p2) [y] [] p3], [], h =>
        have h' : (x == ("sorted" : Str) && isGl sc x && z == ("set" : Str) && isGl sc z && plainE y && chkE G sc true a y) = true := h
        simp only [Bool.and_eq_true] at h'
        obtain ⟨⟨⟨⟨⟨h1, h2⟩, h3⟩, h4⟩, h5⟩, h6⟩ := h'
        obtain rfl := eq_of_beq h1
        obtain rfl := eq_of_beq h3
        exact ⟨p, p2, y, p3, p4, rfl, h2, h4, h5, h6⟩
    all_goals exact ff h
  all_goals exact ff h
theorem inv_dlit {ks es} (h : chkE G sc w (.dlit ks es) e = true) : ∃ keys vals p, e = .Dict keys vals p ∧ chkKy ks keys = true ∧ chkAs G sc false es vals = true ∧ keys.length = vals.length := by
  cases e
  case Dict keys vals p =>
    have h' : (chkKy ks keys && chkAs G sc false es vals && decide (keys.length = vals.length)) = true := h
    simp only [Bool.and_eq_true, decide_eq_true_eq] at h'
    exact ⟨keys, vals, p, rfl, h'.1.1, h'.1.2, h'.2⟩
  all_goals exact ff h
theorem inv_isi {t a} (h : chkE G sc w (.isi t a) e = true) : ∃ p y p2 p', e = .Call (.Name "isinstance" p) [y, .Name (tyName t) p2] [] p' ∧ isGl sc "isinstance" = true ∧ isGl sc (tyName t) = true ∧ plainE y = true ∧ chkE G sc true a y = true := by
  cases e
  case Call g as ks p' =>
    cases g
    case Name x p =>
      match as, ks, h with
      | [y, .Name z p2], [], h =>
        have h' : (x == ("isinstance" : Str) && isGl sc x && z == tyName t && isGl sc z && plainE y && chkE G sc true a y) = true := h
        simp only [Bool.and_eq_true] at h'
        obtain ⟨⟨⟨⟨⟨h1, h2⟩, h3⟩, h4⟩, h5⟩, h6⟩ := h'
        obtain rfl := eq_of_beq h1
        obtain rfl := eq_of_beq h3
        exact ⟨p, y, p2, p', rfl, h2, h4, h5, h6⟩
      | [], _, h => exact ff h
      | [_], _, h => exact ff h
      | _ :: _ :: _ :: _, _, h => simp [chkE] at h
      | [_, q], _ :: _, h => cases q <;> exact ff h
      | [y, q], [], h =>
        cases q
        case Name z p2 =>
          have h' : (x == ("isinstance" : Str) && isGl sc x && z == tyName t && isGl sc z && plainE y && chkE G sc true a y) = true := h
          simp only [Bool.and_eq_true] at h'
          obtain ⟨⟨⟨⟨⟨h1, h2⟩, h3⟩, h4⟩, h5⟩, h6⟩ := h'
          obtain rfl := eq_of_beq h1
          obtain rfl := eq_of_beq h3
          exact ⟨p, y, p2, p', rfl, h2, h4, h5, h6⟩
        all_goals exact ff h
    all_goals exact ff h
  all_goals exact ff h
theorem inv_rev {a} (h : chkE G sc w (.rev a) e = true) : ∃ x kk p1 p2 p3 p, e = .Subscript x (.Slice none none (some (.UnaryOp .USub (.Constant (.int 1) kk p1) p2)) p3) p ∧ chkE G sc true a x = true := by
  cases e
  case Subscript x y p =>
    cases y
    case Slice l u st p3 =>
      cases l with
      | some _ => exact ff h
      | none =>
      cases u with
      | some _ => exact ff h
      | none =>
      cases st with
      | none => exact ff h
      | some z =>
      cases z
      case UnaryOp q z p2 =>
        cases q
        case USub =>
          cases z
          case Constant cc kk p1 =>
            cases cc
            case int n =>
              by_cases hn : n = 1
              · subst hn
                exact ⟨x, kk, p1, p2, p3, p, rfl, h⟩
              · exfalso
                simp [chkE, hn] at h
            all_goals exact ff h
          all_goals exact ff h
        all_goals exact ff h
      all_goals exact ff h
    all_goals exact ff h
  all_goals exact ff h
end
end Ev

set_option Elab.async false
set_option linter.all false
set_option maxRecDepth 100000
set_option maxHeartbeats 4000000
/-! enumerate over a tuple. -/
namespace Ev
variable [Zc]
open PySem PySem.Spec PyProof.Rows L2
open AutoSeq1 (wpAny_loadPart')
theorem enum_newT (l : Addr) (o : Obj) (items : Array Value) (hL : ∀ h : Heap, h.get? l = some o → h.IsTuple l items) :
    Meets (Builtin.«enumerate.__new__» ⟨[.type "enumerate", .ref l], []⟩) (fun _ R s => s.heap.get? l = some o ∧
      R (.ok (.ret (.ref (s.heap.push { cls := .type "tuple_iterator", data := .fields #[.ref l, .int 0 0] }).objs.size)))
        { s with heap := (s.heap.push { cls := .type "tuple_iterator", data := .fields #[.ref l, .int 0 0] }).push { cls := .type "enumerate", data := .fields #[.none, .bool false, .ref s.heap.objs.size, rawInt 0, .none, .none] } }) :=
  .of_wp fun prog w A R s h => by
    obtain ⟨hp, g, d, tk, os⟩ := s; obtain ⟨hl, h⟩ := h
    have hsub := sub_enumerate
    have hT : Heap.IsTuple (Shared.heap ⟨hp, g, d, tk, os⟩) l items := hL _ hl
    wp_walk using wpAny_loadPart' hl
    refine wpAny_stack_any fun st => wpAny_pure ?_
    split
    · rename_i c _ _ _ _ _
      cases (c == Value.type "enumerate") <;> (wp_walk using wpAny_loadPart' hl, wpAny_pyIter_tuple hT; exact ⟨_, rfl, h⟩)
    · wp_walk using wpAny_loadPart' hl, wpAny_pyIter_tuple hT
      exact ⟨_, rfl, h⟩
section
variable {prog : Program} {w : World} {A : Around} {E : Value → Shared → Prop} {s : Shared}
theorem call_enumT {l : Addr} {items : Array Value} {Q : Value → Shared → Prop} (hL : s.heap.IsTuple l items)
    (h : ∀ h', IsEnum h' (s.heap.objs.size + 1) s.heap.objs.size 0 .none → h'.IsTupleIter s.heap.objs.size l 0 → h'.objs.size = s.heap.objs.size + 2 → (∀ b o, s.heap.get? b = some o → h'.get? b = some o) → Q (.ref (s.heap.objs.size + 1)) { s with heap := h' }) :
    wpAny (model prog w) A (call (.type "enumerate") [.ref l]) Q E s := by
  obtain ⟨o, hl, hc, n, hd⟩ := id hL
  refine callType_new PySem.F.called_enumerate (by decide) (PySem.F.typeCall_enumerate_1 _) (PySem.F.newCall_enumerate_1 _) (fun obj => PySem.F.args_object_init_2 obj _) PySem.F.entry_enumerate_new (enum_newT l o items fun h' e => ⟨o, e, hc, n, hd⟩) ⟨hl, ?_⟩
  have hz : (s.heap.push { cls := .type "tuple_iterator", data := .fields #[.ref l, .int 0 0] }).objs.size = s.heap.objs.size + 1 := Heap.size_push ..
  show _ ∧ _
  rw [hz]
  have he : IsEnum ((s.heap.push { cls := .type "tuple_iterator", data := .fields #[.ref l, .int 0 0] }).push { cls := .type "enumerate", data := .fields #[.none, .bool false, .ref s.heap.objs.size, rawInt 0, .none, .none] }) (s.heap.objs.size + 1) s.heap.objs.size 0 .none := by
    have q := Heap.get?_push_size (s.heap.push { cls := .type "tuple_iterator", data := .fields #[.ref l, .int 0 0] }) (o := { cls := .type "enumerate", data := .fields #[.none, .bool false, .ref s.heap.objs.size, rawInt 0, .none, .none] }) rfl
    rw [hz] at q; exact q
  exact ⟨⟨_, he, rfl⟩, h _ he ⟨_, Heap.get?_push_of_some _ (Heap.get?_push_size _ rfl), rfl, rfl⟩ (by rw [Heap.size_push, hz]) fun b u x => Heap.get?_push_of_some _ (Heap.get?_push_of_some _ x)⟩
end
def IteT (K : PySem.W.Frag) (a : Addr) : It :=
  ⟨fun i H => ∃ (xs : List V) (x : V), SqT K H a xs ∧ xs[i]? = some x, fun i H v H' => ∃ T x, v = .ref T ∧ H T = none ∧ H' = upd H T (.tup [.int (i : Nat), x]) ∧ ∀ xs, SqT K H a xs → xs[i]? = some x, fun i H => ∃ xs : List V, SqT K H a xs ∧ xs.length ≤ i⟩
theorem turn_enumT {P : Program} {w : World} {K : PySem.W.Frag} {elts : List Expr} {kk : Nat} {tpos : Pos} (a e it : Addr) (hae : a ≠ e) (hai : a ≠ it) (hei : e ≠ it) :
    Turn P w K (.Tuple elts kk tpos) (IteT K a) [e, it] e (fun i h => (∃ old, IsEnum h e it ((i : Nat) : Int) old) ∧ h.IsTupleIter it a i) where
  mem := by simp
  obj := fun i h st b hb => by
    obtain ⟨⟨old, he⟩, ⟨o, ho, hc, hd⟩⟩ := st
    rcases (show b = e ∨ b = it by simpa using hb) with rfl | rfl
    · exact ⟨_, he, fun v q => nomatch q⟩
    · exact ⟨o, ho, fun v q => by rw [hd] at q; cases q⟩
  keep := fun i h h' st k => let ⟨⟨old, he⟩, hi⟩ := st; ⟨⟨old, k e (by simp) _ he⟩, hi.at fun o q => k it (by simp) o q⟩
  item := by
    intro X hP hw hK hc i pins s σ H E I hf st hg
    subst hP hw hK
    obtain ⟨⟨old, he⟩, hit⟩ := st
    obtain ⟨xs, x, hq, hx⟩ := hg
    obtain ⟨its, rv, p, hz⟩ := I.tuple hq
    obtain ⟨u, hu, ru⟩ := rv.get hx
    have hel : e < s.heap.objs.size := Heap.lt_size he
    have hil : it < s.heap.objs.size := by obtain ⟨_, q, _⟩ := hit; exact Heap.lt_size q
    have hlt : i < its.toArray.size := by
      rw [List.size_toArray, ← rv.length]
      exact (List.getElem?_eq_some_iff.mp hx).1
    refine wpAny_pyNext_enum_itemD (Draws.tuple (A := X.A.in1) (I.ok.hd hc) it a hai its.toArray) he ⟨hit, p⟩ hlt hei (by simp [hei, Ne.symm hae]) fun y h' tk hy ho hst hT hsz hk => ?_
    have ey : y = u := by
      rw [List.getElem?_toArray, hu] at hy
      exact (Option.some.inj hy).symm
    subst ey
    refine ⟨_, rfl, wpAny_letOwnedTupleGo_enum (s := { s with heap := h', toks := tk + 1 }) ho fun h'' he' sb => ?_⟩
    have hT2 : h''.get? s.heap.objs.size = some { cls := .type "tuple", data := .seq #[.int i tk, y] } := (sb.2 _ (Nat.ne_of_gt hel)).trans hT
    have new : ObjOk X.prog X.w (upd H s.heap.objs.size (.tup [.int (i : Nat), x])) h'' s.heap.objs.size (.tup [.int (i : Nat), x]) := ⟨by show 2 ≤ sizeLine; decide, [.int i tk, y], .cons ⟨_, rfl⟩ (.cons ru .nil), ⟨_, hT2, rfl, _, rfl⟩⟩
    have I1 : Inv X pins σ (upd H s.heap.objs.size (.tup [.int (i : Nat), x])) { s with heap := h'', toks := tk + 1 } :=
      I.turnedNew (ch := [e, it]) (fun b ob hb q => (sb.2 b (fun z => hb (by simp [z]))).trans (hk b ob (fun z => hb (by simp [z])) (fun z => hb (by simp [z])) q)) hf (Nat.le_refl _) new
    refine ⟨.ref s.heap.objs.size, _, I1, rfl, ⟨_, x, rfl, I.hok.fresh (Nat.le_refl _), rfl, fun ys hy => by rw [I.tuple_inj hy hq]; exact hx⟩, ⟨⟨y, ?_⟩, hst.1.at fun o q => (sb.2 it (Ne.symm hei)).trans q⟩, fun b hb => ?_⟩
    · rw [show ((i + 1 : Nat) : Int) = (i : Int) + 1 by omega]; exact he'
    · have hb' : b < s.heap.objs.size := by
        rcases (show b = e ∨ b = it by simpa using hb) with rfl | rfl
        · exact hel
        · exact hil
      rw [upd_ne (Nat.ne_of_lt hb')]
      exact (hf b hb).1
  done := by
    intro X hP hw hK hc i pins s σ H E I hf st hg
    subst hP hw hK
    obtain ⟨⟨old, he⟩, hit⟩ := st
    obtain ⟨xs, hq, hx⟩ := hg
    obtain ⟨its, rv, p, hz⟩ := I.tuple hq
    obtain ⟨f0, f1, f2, f3, f4, f5⟩ := hf it (by simp)
    have hl := rv.length
    have hT : s.TypeIs (.ref e) "enumerate" := ⟨_, he, rfl⟩
    unfold pyNext
    refine wpAny_bind (wpAny_attempt (wpAny_callSpecial?_slot (name := Str.ofString "__next__") hT PySem.F.slot_enumerate_next (wpAny_call_entry PySem.F.slot_enumerate_next hT PySem.F.entry_enumerate_next ?_ (PySem.F.args_enumerate_next_1 _))))
    show wpAny _ _ (field (.ref e) 2 >>= _) _ _ _
    refine wpAny_bind (wpAny_field he rfl (x := .ref it) rfl (wpAny_bind (wpAny_nextOf_tuple_end (show X.A.in1.handled = none from I.ok.hd hc) hit p (by simp; omega) fun h' x heb hx' => ?_)))
    obtain ⟨o, ho, hco⟩ := hx'
    exact wpAny_bind (wpAny_isInstance (T := "StopIteration") (b := true) ⟨o, ho, hco⟩ isSubtype_stop (wpAny_pure ⟨rfl, I.turned (t' := s.toks) (fun b o hb q => heb b o hb q) f0 f1 f3 f4 f5⟩))
  self := fun A i s Q E st h => let ⟨⟨_, he⟩, _⟩ := st; wpAny_pyIter_enum he h
def iEn (K : PySem.W.Frag) (ta : TA) : TI := fun σ H R => ta σ H fun vs H1 => ∃ a xs, vs = [.ref a] ∧ ((SqL K H1 a xs ∧ R (Ite K a) H1) ∨ (SqT K H1 a xs ∧ R (IteT K a) H1))
theorem pi_en {X : Cx} {e : Expr} {ta : TA} {p pos tpos : Pos} {elts : List Expr} {kk : Nat} (hg : Gl X "enumerate") (hm : X.mg "enumerate" = none) (ha : PA X [e] ta) (hs : starEach [e] X.env = [(false, eval e X.env)]) :
    PI X (.Tuple elts kk tpos) (.Call (.Name "enumerate" p) [e] [] pos) (iEn X.K ta) := by
  refine ⟨fun pins s σ H R I h => Call_ (ld_blt I hg hm boot_enumerate (PyProof.Rows.callWith_type1 (thn (ha.run pos pins s σ H _ I h) fun us s1 ⟨vs, H1, I1, r1, a, xs, ex, q1⟩ => ?_) hs rfl))⟩
  subst ex
  cases r1 with
  | cons r rr =>
    cases rr
    cases r
    rcases q1 with ⟨hq, q⟩ | ⟨hq, q⟩
    · obtain ⟨its, rv, p', hz⟩ := I1.list hq
      refine call_enumerate_list p'.isList fun h' he hit hsz hk => wpAny_pyIter_enum he ?_
      refine ⟨s1.heap.objs.size + 1, [s1.heap.objs.size + 1, s1.heap.objs.size], _, _, H1, rfl, I1.kept (t' := s1.toks) hk, turn_enum a (s1.heap.objs.size + 1) s1.heap.objs.size, ⟨⟨.none, he⟩, hit, Nat.succ_ne_self _⟩, fun b hb => ?_, q⟩
      have hle : s1.heap.objs.size ≤ b := by
        rcases (show b = s1.heap.objs.size + 1 ∨ b = s1.heap.objs.size by simpa using hb) with z | z
        · rw [z]; exact Nat.le_succ _
        · rw [z]; exact Nat.le_refl _
      exact I1.fpOk hle (I1.hok.fresh hle)
    · obtain ⟨its, rv, p', hz⟩ := I1.tuple hq
      have hlt : a < s1.heap.objs.size := by obtain ⟨o, e, _⟩ := id p'; exact Heap.lt_size e
      refine call_enumT p' fun h' he hit hsz hk => wpAny_pyIter_enum he ?_
      refine ⟨s1.heap.objs.size + 1, [s1.heap.objs.size + 1, s1.heap.objs.size], _, _, H1, rfl, I1.kept (t' := s1.toks) hk, turn_enumT a (s1.heap.objs.size + 1) s1.heap.objs.size (Nat.ne_of_lt (Nat.lt_succ_of_lt hlt)) (Nat.ne_of_lt hlt) (Nat.succ_ne_self _), ⟨⟨.none, he⟩, hit⟩, fun b hb => ?_, q⟩
      have hle : s1.heap.objs.size ≤ b := by
        rcases (show b = s1.heap.objs.size + 1 ∨ b = s1.heap.objs.size by simpa using hb) with z | z
        · rw [z]; exact Nat.le_succ _
        · rw [z]; exact Nat.le_refl _
      exact I1.fpOk hle (I1.hok.fresh hle)
end Ev

set_option Elab.async false
set_option linter.all false
set_option maxRecDepth 100000
set_option maxHeartbeats 4000000
/-! The term's value is the text's: one rule for each form of expression. -/
namespace Ev
variable [Zc]
open PySem PySem.Spec PyProof.Rows L2

def isBO : Expr → Bool
  | .BoolOp .. => true
  | _ => false
structure SE (G : Ga) (F : FT) (k : Nat) (ce : CE) : Prop where
  s : ∀ {X : Cx} {e : Expr}, Cd G F k X → chkE G X.env.scope false ce e = true → PE X e (tS X.K F ce)
  w : ∀ {X : Cx} {e : Expr} {w : Bool}, Cd G F k X → chkE G X.env.scope w ce e = true → PE X e (tW X.K F ce)
  t : ∀ {X : Cx} {e : Expr} {w : Bool}, Cd G F k X → chkE G X.env.scope w ce e = true → PT X e (tT X.K F ce)
  b : ∀ {X : Cx} {e : Expr} {w : Bool}, Cd G F k X → chkE G X.env.scope w ce e = true → isBO e = true → PW X e (tT X.K F ce)
structure SEs (G : Ga) (F : FT) (k : Nat) (ces : CEs) : Prop where
  a : ∀ {X : Cx} {l : List Expr}, Cd G F k X → chkEs G X.env.scope ces l = true → PA X l (tAs X.K F ces)
  p : ∀ {X : Cx} {l : List Expr}, Cd G F k X → chkAs G X.env.scope false ces l = true → PA X l (tAs X.K F ces)
  q : ∀ {X : Cx} {l : List Expr}, Cd G F k X → chkAs G X.env.scope true ces l = true → PA X l (tAw X.K F ces)
def tO (K : PySem.W.Frag) (F : FT) (ce : CEo) : TO := fun σ H Q => ∃ (cs : List Addr) (Av : Addr → Prop) (ρ : Rho) (st : Sto) (r : Option D) (i : Option Int) (st' : Sto),
  AvOk cs Av H ∧ Cl K cs Av H st ∧ En K cs Av H σ ρ ∧ evO F ce ρ st = some (r, st') ∧ asInt? r = some i ∧ ∀ H', Ext cs H H' → Cl K cs Av H' st' → Q i H'
structure SO (G : Ga) (F : FT) (k : Nat) (ce : CEo) : Prop where
  o : ∀ {X : Cx} {e : Option Expr}, Cd G F k X → chkO G X.env.scope ce e = true → PO X e (tO X.K F ce)

def plainT : Expr → Bool
  | .UnaryOp .Not .. => false
  | .BoolOp .. => false
  | .IfExp .. => false
  | .Compare .. => false
  | _ => true
theorem plainT_is {e : Expr} {env : Env} (h : plainT e = true) (whole : Sem Value) : isTrue e env whole = (do let v ← whole; standAt e.pos; holding [v] (truthy v)) := by
  cases e
  case UnaryOp o x p => cases o <;> first | rfl | exact ff h
  all_goals first | rfl | exact ff h
section
variable {G : Ga} {F : FT} {k : Nat} {X : Cx} {e : Expr} {ce a b c : CE} {w : Bool}
theorem tS_w (h : PE X e (tS X.K F ce)) : PE X e (tW X.K F ce) :=
  PEimp h fun σ H Q ⟨cs, Av, ρ, st, r, st', ok, cl, en, he, q⟩ => ⟨cs, Av, ρ, st, r, st', ok, cl, en, he, fun v H' ex cl' rp => q v H' ex cl' (rp.1.w ok)⟩
theorem tW_t (h : PE X e (tW X.K F ce)) (hp : plainT e = true) : PT X e (tT X.K F ce) :=
  PTimp (pt_truth h (plainT_is hp)) fun σ H Q ⟨cs, Av, ρ, st, r, st', b, ok, cl, en, he, ht, q⟩ => ⟨cs, Av, ρ, st, r, st', ok, cl, en, he, fun v H' ex cl' rw => ⟨b, tru_of rw ht, q H' ex cl'⟩⟩
theorem SE.of (h : ∀ {X : Cx} {e : Expr} {w : Bool}, Cd G F k X → chkE G X.env.scope w ce e = true → PE X e (tS X.K F ce)) (hp : ∀ {sc : Scope} {e : Expr} {w : Bool}, chkE G sc w ce e = true → plainT e = true ∧ isBO e = false) : SE G F k ce :=
  ⟨fun c x => h c x, fun c x => tS_w (h c x), fun c x => tW_t (tS_w (h c x)) (hp x).1, fun c x hb => by rw [(hp x).2] at hb; cases hb⟩

/-! ### leaves -/
theorem se_var (i : Nat) : SE G F k (.var i) := SE.of (fun {X e w} c h => by
  obtain ⟨x, p, rfl, h⟩ := inv_var h
  refine PEimp (var_ok c h) fun σ H Q ⟨cs, Av, ρ, st, r, st', ok, cl, en, he, q⟩ => ?_
  simp only [evE] at he
  split at he
  · rename_i d hd
    cases he
    obtain ⟨u, h1, h2⟩ := slot_v en hd
    exact ⟨u, h1, q u H (Ext.refl _ _) cl (.vv h2)⟩
  · cases he) (fun h => by obtain ⟨x, p, rfl, _⟩ := inv_var h; exact ⟨rfl, rfl⟩)
theorem se_peek (i : Nat) : SE G F k (.peek i) := by
  have key : ∀ {X : Cx} {e : Expr} {w : Bool}, Cd G F k X → chkE G X.env.scope w (.peek i) e = true → PE X e (tW X.K F (.peek i)) := fun {X e w} c h => by
    obtain ⟨_, x, p, rfl, h'⟩ := inv_peek h
    refine PEimp (var_ok c h') fun σ H Q ⟨cs, Av, ρ, st, r, st', ok, cl, en, he, q⟩ => ?_
    simp only [evE] at he
    split at he
    · rename_i d hd
      cases he
      obtain ⟨a, vs, h1, h2, h3, h4, h5⟩ := slot_o en hd
      exact ⟨.ref a, h1, q _ H (Ext.refl _ _) cl (.inr ⟨a, vs, _, rfl, rfl, .inl h3, SqL.of h4, h5⟩)⟩
    · cases he
  refine ⟨fun c h => ?_, key, fun c h => tW_t (key c h) ?_, fun c h hb => ?_⟩
  · cases (inv_peek h).1
  · obtain ⟨_, x, p, rfl, _⟩ := inv_peek h; rfl
  · obtain ⟨_, x, p, rfl, _⟩ := inv_peek h; cases hb
theorem se_con (d : D) : SE G F k (.con d) := SE.of (fun {X e w} c h => by
  obtain ⟨cc, j, p, rfl, h⟩ := inv_con h
  obtain ⟨v, h1, h2⟩ := con_ok (X := X) (kk := j) (pos := p) h
  refine PEimp h1 fun σ H Q ⟨cs, Av, ρ, st, r, st', ok, cl, en, he, q⟩ => ?_
  simp only [evE] at he
  cases he
  exact q v H (Ext.refl _ _) cl (.vv (h2 _ _ _ _))) (fun h => by obtain ⟨cc, j, p, rfl, _⟩ := inv_con h; exact ⟨rfl, rfl⟩)
theorem se_gl (y : Str) (d : D) : SE G F k (.gl y d) := SE.of (fun {X e w} c h => by
  obtain ⟨x, p, rfl, h1, h2, h3⟩ := inv_gl h
  unfold cnIs at h3
  split at h3
  · rename_i d' hd
    obtain rfl := deq_eq h3
    obtain ⟨u, v, hm, rv, hr⟩ := c.g.cn _ _ hd
    refine PEimp (pe_glob (isGl_of h1) hm rv (okN_of h2).1) fun σ H Q ⟨cs, Av, ρ, st, r, st', ok, cl, en, he, q⟩ => ?_
    simp only [evE] at he
    cases he
    exact q v H (Ext.refl _ _) cl (.vv (hr _ _ _))
  · cases h3) (fun h => by obtain ⟨x, p, rfl, _⟩ := inv_gl h; exact ⟨rfl, rfl⟩)

/-! ### tuples, lists -/
theorem se_tup {es : CEs} (hs : SEs G F k es) : SE G F k (.tup es) := SE.of (fun {X e w} c h => by
  obtain ⟨l, kk, p, rfl, h⟩ := inv_tup h
  refine PEimp (pe_tupD (hs.a c h)) fun σ H Q ⟨cs, Av, ρ, st, r, st', ok, cl, en, he, q⟩ => ?_
  simp only [evE] at he
  split at he
  · rename_i ds st1 h1
    split at he
    · rename_i hl
      cases he
      refine ⟨cs, Av, ρ, st, ds, _, ok, cl, en, h1, fun vs H' ex cl' rs => ⟨?_, fun p o ho hp => ?_⟩⟩
      · rw [rs.length]; exact Nat.le_trans hl maxLen_le
      · have ok' := ok.ext ex cl'
        have z : Ext [] H' (upd H' p (.frz o (.tup vs))) := Ext.upd hp
        refine q _ _ (ex.trans z.all) (cl'.ext ok' z) (.vv ?_)
        exact .tup (SqD.new ho) (rs.ext ok' z.all)
    · cases he
  · cases he) (fun h => by obtain ⟨l, kk, p, rfl, _⟩ := inv_tup h; exact ⟨rfl, rfl⟩)
theorem se_lst {es : CEs} (hs : SEs G F k es) : SE G F k (.lst es) := SE.of (fun {X e w} c h => by
  obtain ⟨l, p, rfl, h⟩ := inv_lst h
  refine PEimp (pe_lst (hs.a c h)) fun σ H Q ⟨cs, Av, ρ, st, r, st', ok, cl, en, he, q⟩ => ?_
  simp only [evE] at he
  split at he
  · rename_i ds st1 h1
    split at he
    · rename_i hl
      cases he
      refine ⟨cs, Av, ρ, st, ds, _, ok, cl, en, h1, fun vs H' ex cl' rs => ⟨?_, fun p hp => ?_⟩⟩
      · rw [rs.length]; exact Nat.le_trans hl maxLen_le
      · have ok' := ok.ext ex cl'
        have z : Ext [] H' (upd H' p (.lst vs)) := Ext.upd hp
        refine q _ _ (ex.trans z.all) (cl'.ext ok' z) ?_
        exact RpS.fresh (r := .o ds) (lst_new ok' hp rs) ex ok' cl' z
    · cases he
  · cases he) (fun h => by obtain ⟨l, p, rfl, _⟩ := inv_lst h; exact ⟨rfl, rfl⟩)

/-! ### operators -/
theorem se_bin {o : Op2} (ha : SE G F k a) (hb : SE G F k b) : SE G F k (.bin o a b) := SE.of (fun {X e w} c h => by
  obtain ⟨l, r, p, rfl, h1, h2⟩ := inv_bin h
  refine PEimp (pe_op (op2_ok o) (ha.w c h1) (hb.w c h2)) fun σ H Q ⟨cs, Av, ρ, st, r, st', ok, cl, en, he, q⟩ => ?_
  simp only [evE] at he
  split at he
  · rename_i x st1 e1
    split at he
    · rename_i y st2 e2
      split at he
      · rename_i z e3
        cases he
        refine ⟨cs, Av, ρ, st, x, st1, ok, cl, en, e1, fun v H1 x1 c1 r1 => ?_⟩
        have ok1 := ok.ext x1 c1
        refine ⟨cs, Av, ρ, st1, y, _, ok1, c1, en.ext ok x1, e2, fun u H2 x2 c2 r2 => ?_⟩
        have ok2 := ok1.ext x2 c2
        refine ⟨cs, Av, x.d, y.d, _, ok2, r1.ext ok1 x2, r2, e3, fun v H' x3 r3 => ?_⟩
        exact q v H' ((x1.trans x2).trans x3.all) (c2.ext ok2 x3) (.fresh r3 (x1.trans x2) ok2 c2 x3)
      · cases he
    · cases he
  · cases he) (fun h => by obtain ⟨l, r, p, rfl, _⟩ := inv_bin h; exact ⟨rfl, rfl⟩)
theorem se_neg (ha : SE G F k a) : SE G F k (.neg a) := SE.of (fun {X e w} c h => by
  obtain ⟨l, p, rfl, h1⟩ := inv_neg h
  refine PEimp (pe_un un_neg (ha.s c h1)) fun σ H Q ⟨cs, Av, ρ, st, r, st', ok, cl, en, he, q⟩ => ?_
  simp only [evE] at he
  split at he
  · rename_i i st1 e1
    cases he
    refine ⟨cs, Av, ρ, st, _, _, ok, cl, en, e1, fun v H1 x1 c1 r1 => ?_⟩
    cases r1.1
    exact ⟨i, rfl, q _ H1 x1 c1 (.vv (.int _))⟩
  · cases he) (fun h => by obtain ⟨l, p, rfl, _⟩ := inv_neg h; exact ⟨rfl, rfl⟩)
theorem cmp2_bool {o : Cm} {d e z : D} (h : cmp2 o d e = some z) : ∃ b, z = .bool b := by
  unfold cmp2 at h
  split at h
  all_goals first
    | (cases h; done)
    | (split at h <;> cases h <;> exact ⟨_, rfl⟩)
    | (cases h; exact ⟨_, rfl⟩)
    | (obtain ⟨b, _, rfl⟩ := Option.map_eq_some_iff.mp h; exact ⟨_, rfl⟩)
theorem se_cmp {o : Cm} (ha : SE G F k a) (hb : SE G F k b) : SE G F k (.cmp o a b) := by
  have ev : ∀ {ρ st r st'}, evE F (.cmp o a b) ρ st = some (r, st') → ∃ x st1 y z, evE F a ρ st = some (x, st1) ∧ evE F b ρ st1 = some (y, st') ∧ cmp2 o x.d y.d = some z ∧ r = .v z := fun {ρ st r st'} he => by
    simp only [evE] at he
    split at he
    · rename_i x st1 e1
      split at he
      · rename_i y st2 e2
        split at he
        · rename_i z e3
          cases he
          exact ⟨x, st1, y, z, e1, e2, e3, rfl⟩
        · cases he
      · cases he
    · cases he
  have ks : ∀ {X : Cx} {e : Expr} {w : Bool}, Cd G F k X → chkE G X.env.scope w (.cmp o a b) e = true → PE X e (tS X.K F (.cmp o a b)) := fun {X e w} c h => by
    obtain ⟨l, r, p, rfl, h1, h2, h3⟩ := inv_cmp h
    refine PEimp (pe_cmpR (cm_ok c.u o) (ha.w c h1) (hb.w c h2) h3) fun σ H Q ⟨cs, Av, ρ, st, r, st', ok, cl, en, he, q⟩ => ?_
    obtain ⟨x, st1, y, z, e1, e2, e3, rfl⟩ := ev he
    refine ⟨cs, Av, ρ, st, x, st1, ok, cl, en, e1, fun v H1 x1 c1 r1 => ?_⟩
    have ok1 := ok.ext x1 c1
    refine ⟨cs, Av, ρ, st1, y, st', ok1, c1, en.ext ok x1, e2, fun u H2 x2 c2 r2 => ?_⟩
    have ok2 := ok1.ext x2 c2
    exact ⟨cs, Av, x.d, y.d, z, ok2, r1.ext ok1 x2, r2, e3, fun v r3 => q v H2 (x1.trans x2) c2 (.vv r3)⟩
  refine ⟨fun c h => ks c h, fun c h => tS_w (ks c h), fun {X e w} c h => ?_, fun c h hb => ?_⟩
  · obtain ⟨l, r, p, rfl, h1, h2, h3⟩ := inv_cmp h
    refine PTimp (pt_cmpR (cm_ok c.u o) (ha.w c h1) (hb.w c h2) h3) fun σ H Q ⟨cs, Av, ρ, st, r, st', bb, ok, cl, en, he, ht, q⟩ => ?_
    obtain ⟨x, st1, y, z, e1, e2, e3, rfl⟩ := ev he
    refine ⟨cs, Av, ρ, st, x, st1, ok, cl, en, e1, fun v H1 x1 c1 r1 => ?_⟩
    have ok1 := ok.ext x1 c1
    refine ⟨cs, Av, ρ, st1, y, st', ok1, c1, en.ext ok x1, e2, fun u H2 x2 c2 r2 => ?_⟩
    have ok2 := ok1.ext x2 c2
    refine ⟨cs, Av, x.d, y.d, z, ok2, r1.ext ok1 x2, r2, e3, fun v r3 => ?_⟩
    obtain ⟨b', rfl⟩ := cmp2_bool e3
    cases r3
    cases ht
    exact ⟨_, rfl, q H2 (x1.trans x2) c2⟩
  · obtain ⟨l, r, p, rfl, _⟩ := inv_cmp h; cases hb
theorem se_chain {o o' : Cm} (ha : SE G F k a) (hb : SE G F k b) (hc : SE G F k c) : SE G F k (.chain o o' a b c) := by
  have ks : ∀ {X : Cx} {l r r' : Expr} {H : Hp} {σ : L2.St} {Q : VK}, Cd G F k X → tS X.K F (.chain o o' a b c) σ H (fun v H' => ∃ b, v = .bl b ∧ Q v H') → tChain (rCm X.K o) (rCm X.K o') (tW X.K F a) (tW X.K F b) (tW X.K F c) σ H Q := fun {X l r r' H σ Q} cd ⟨cs, Av, ρ, st, r, st', ok, cl, en, he, q⟩ => by
    simp only [evE] at he
    split at he
    · rename_i x st1 e1
      split at he
      · rename_i y st2 e2
        refine ⟨cs, Av, ρ, st, x, st1, ok, cl, en, e1, fun v H1 x1 c1 r1 => ?_⟩
        have ok1 := ok.ext x1 c1
        refine ⟨cs, Av, ρ, st1, y, st2, ok1, c1, en.ext ok x1, e2, fun u H2 x2 c2 r2 => ?_⟩
        have ok2 := ok1.ext x2 c2
        split at he
        · rename_i e3
          refine ⟨cs, Av, x.d, y.d, _, ok2, r1.ext ok1 x2, r2, e3, fun z r3 => ?_⟩
          cases r3
          refine ⟨true, rfl, ?_⟩
          split at he
          · rename_i z st3 e4
            split at he
            · rename_i r0 e5
              cases he
              refine ⟨cs, Av, ρ, st2, z, _, ok2, c2, (en.ext ok x1).ext ok1 x2, e4, fun v3 H3 x3 c3 r4 => ?_⟩
              have ok3 := ok2.ext x3 c3
              refine ⟨cs, Av, y.d, z.d, r0, ok3, r2.ext ok2 x3, r4, e5, fun v r5 => ?_⟩
              obtain ⟨bb, hb', hq⟩ := q v H3 ((x1.trans x2).trans x3) c3 (.vv r5)
              exact hq
            · cases he
          · cases he
        · rename_i e3
          cases he
          refine ⟨cs, Av, x.d, y.d, _, ok2, r1.ext ok1 x2, r2, e3, fun z r3 => ?_⟩
          cases r3
          refine ⟨false, rfl, ?_⟩
          obtain ⟨bb, hb', hq⟩ := q (.bl false) H2 (x1.trans x2) c2 (.vv (.bl false))
          exact hq
        · cases he
      · cases he
    · cases he
  have bo : ∀ {ρ st r st'}, evE F (.chain o o' a b c) ρ st = some (r, st') → ∃ b, r = .v (.bool b) := fun {ρ st r st'} he => by
    simp only [evE] at he
    repeat' (split at he)
    all_goals first
      | (cases he; done)
      | (cases he; exact ⟨_, rfl⟩)
      | (simp only [Option.some.injEq, Prod.mk.injEq] at he; obtain ⟨rfl, rfl⟩ := he; obtain ⟨b, rfl⟩ := cmp2_bool ‹cmp2 o' _ _ = some _›; exact ⟨_, rfl⟩)
  have ks2 : ∀ {X : Cx} {e : Expr} {w : Bool}, Cd G F k X → chkE G X.env.scope w (.chain o o' a b c) e = true → PE X e (tS X.K F (.chain o o' a b c)) := fun {X e w} cd h => by
    obtain ⟨l, r, r', p, rfl, h1, h2, h3, h4⟩ := inv_chain h
    refine PEimp (pe_chain (cm_ok cd.u o) (cm_ok cd.u o') (ha.w cd h1) (hb.w cd h2) (hc.w cd h3) h4) fun σ H Q ⟨cs, Av, ρ, st, r, st', ok, cl, en, he, q⟩ => ks (l := l) (r := l) (r' := l) cd ?_
    obtain ⟨bb, rfl⟩ := bo he
    refine ⟨cs, Av, ρ, st, _, st', ok, cl, en, he, fun v H' x1 c1 r1 => ?_⟩
    have r1' := r1.1
    cases r1'
    exact ⟨bb, rfl, q _ H' x1 c1 r1⟩
  refine ⟨fun c h => ks2 c h, fun c h => tS_w (ks2 c h), fun {X e w} cd h => ?_, fun c h hb => ?_⟩
  · obtain ⟨l, r, r', p, rfl, h1, h2, h3, h4⟩ := inv_chain h
    refine PTimp (pt_chain (cm_ok cd.u o) (cm_ok cd.u o') (ha.w cd h1) (hb.w cd h2) (hc.w cd h3) h4) fun σ H Q ⟨cs, Av, ρ, st, r, st', bb, ok, cl, en, he, ht, q⟩ => ks (l := l) (r := l) (r' := l) cd ?_
    obtain ⟨b', rfl⟩ := bo he
    cases ht
    refine ⟨cs, Av, ρ, st, _, st', ok, cl, en, he, fun v H' x1 c1 r1 => ?_⟩
    cases r1.1
    exact ⟨_, rfl, _, rfl, q H' x1 c1⟩
  · obtain ⟨l, r, r', p, rfl, _⟩ := inv_chain h; cases hb

/-! ### and, or, not, if -/
theorem se_one (ha : SE G F k a) : SE G F k (.one a) := by
  have ev : ∀ ρ st, evE F (.one a) ρ st = evE F a ρ st := fun ρ st => by simp only [evE]
  refine ⟨fun {X e} c h => ?_, fun {X e w} c h => ?_, fun {X e w} c h => ?_, fun {X e w} c h _ => ?_⟩
  · obtain ⟨q, x, p, rfl, h1⟩ := inv_one h
    exact PEimp (pe_one (ha.s c h1)) fun σ H Q ⟨cs, Av, ρ, st, r, st', ok, cl, en, he, q⟩ => ⟨cs, Av, ρ, st, r, st', ok, cl, en, by rw [← ev]; exact he, q⟩
  · obtain ⟨q, x, p, rfl, h1⟩ := inv_one h
    exact PEimp (pe_one (ha.w c h1)) fun σ H Q ⟨cs, Av, ρ, st, r, st', ok, cl, en, he, q⟩ => ⟨cs, Av, ρ, st, r, st', ok, cl, en, by rw [← ev]; exact he, q⟩
  · obtain ⟨q, x, p, rfl, h1⟩ := inv_one h
    have z : PT X (.BoolOp q [x] p) (tT X.K F a) := by
      cases q
      · exact (pw_and1 (ha.t c h1)).pt
      · exact (pw_or1 (ha.t c h1)).pt
    exact PTimp z fun σ H Q ⟨cs, Av, ρ, st, r, st', b, ok, cl, en, he, q⟩ => ⟨cs, Av, ρ, st, r, st', b, ok, cl, en, by rw [← ev]; exact he, q⟩
  · obtain ⟨q, x, p, rfl, h1⟩ := inv_one h
    have z : PW X (.BoolOp q [x] p) (tT X.K F a) := by
      cases q
      · exact pw_and1 (ha.t c h1)
      · exact pw_or1 (ha.t c h1)
    exact ⟨fun wh pins s σ H Q I ⟨cs, Av, ρ, st, r, st', b, ok, cl, en, he, q⟩ => z.run wh pins s σ H Q I ⟨cs, Av, ρ, st, r, st', b, ok, cl, en, by rw [← ev]; exact he, q⟩⟩
theorem ev_and {ρ : Rho} {st st' : Sto} {r : RV} (he : evE F (.and a b) ρ st = some (r, st')) : ∃ x st1 t, evE F a ρ st = some (x, st1) ∧ truth x.d = some t ∧ ((t = true ∧ evE F b ρ st1 = some (r, st')) ∨ (t = false ∧ r = x ∧ st' = st1)) := by
  simp only [evE] at he
  split at he
  · rename_i x st1 e1
    refine ⟨x, st1, ?_⟩
    split at he
    · rename_i e2; exact ⟨true, e1, e2, .inl ⟨rfl, he⟩⟩
    · rename_i e2; cases he; exact ⟨false, e1, e2, .inr ⟨rfl, rfl, rfl⟩⟩
    · cases he
  · cases he
theorem ev_or {ρ : Rho} {st st' : Sto} {r : RV} (he : evE F (.or a b) ρ st = some (r, st')) : ∃ x st1 t, evE F a ρ st = some (x, st1) ∧ truth x.d = some t ∧ ((t = false ∧ evE F b ρ st1 = some (r, st')) ∨ (t = true ∧ r = x ∧ st' = st1)) := by
  simp only [evE] at he
  split at he
  · rename_i x st1 e1
    refine ⟨x, st1, ?_⟩
    split at he
    · rename_i e2; cases he; exact ⟨true, e1, e2, .inr ⟨rfl, rfl, rfl⟩⟩
    · rename_i e2; exact ⟨false, e1, e2, .inl ⟨rfl, he⟩⟩
    · cases he
  · cases he
theorem se_and (ha : SE G F k a) (hb : SE G F k b) : SE G F k (.and a b) := by
  have ks : ∀ {X : Cx} {e : Expr} {w : Bool}, Cd G F k X → chkE G X.env.scope w (.and a b) e = true → PE X e (tS X.K F (.and a b)) := fun {X e w} c h => by
    obtain ⟨x, y, r, p, rfl, h1, h2⟩ := inv_and h
    refine PEimp (pe_andT (ha.s c h1) (hb.s c h2)) fun σ H Q ⟨cs, Av, ρ, st, r, st', ok, cl, en, he, q⟩ => ?_
    obtain ⟨x, st1, t, e1, e2, e3⟩ := ev_and he
    refine ⟨cs, Av, ρ, st, x, st1, ok, cl, en, e1, fun v H1 x1 c1 r1 => ⟨t, tru_of (r1.1.w ok) e2, ?_⟩⟩
    have ok1 := ok.ext x1 c1
    rcases e3 with ⟨rfl, e3⟩ | ⟨rfl, rfl, rfl⟩
    · show (if true = true then _ else _)
      rw [if_pos rfl]
      exact ⟨cs, Av, ρ, st1, r, st', ok1, c1, en.ext ok x1, e3, fun v H2 x2 c2 r2 => q v H2 (x1.trans x2) c2 (r2.old x1 ok1)⟩
    · show (if false = true then _ else _)
      rw [if_neg (by decide)]
      exact q v H1 x1 c1 r1
  have kt : ∀ {X : Cx} {e : Expr} {w : Bool}, Cd G F k X → chkE G X.env.scope w (.and a b) e = true → PW X e (tT X.K F (.and a b)) := fun {X e w} c h => by
    obtain ⟨x, y, r, p, rfl, h1, h2⟩ := inv_and h
    refine ⟨fun wh pins s σ H Q I ⟨cs, Av, ρ, st, r, st', bb, ok, cl, en, he, ht, q⟩ => (pw_and (ha.t c h1) (hb.b c h2 rfl)).run wh pins s σ H Q I ?_⟩
    obtain ⟨x, st1, t, e1, e2, e3⟩ := ev_and he
    refine ⟨cs, Av, ρ, st, x, st1, t, ok, cl, en, e1, e2, fun H1 x1 c1 => ?_⟩
    have ok1 := ok.ext x1 c1
    rcases e3 with ⟨rfl, e3⟩ | ⟨rfl, rfl, rfl⟩
    · show (if true = true then _ else _)
      rw [if_pos rfl]
      exact ⟨cs, Av, ρ, st1, r, st', bb, ok1, c1, en.ext ok x1, e3, ht, fun H2 x2 c2 => q H2 (x1.trans x2) c2⟩
    · show (if false = true then _ else _)
      rw [if_neg (by decide)]
      rw [ht] at e2
      cases e2
      exact q H1 x1 c1
  exact ⟨fun c h => ks c h, fun c h => tS_w (ks c h), fun c h => (kt c h).pt, fun c h _ => kt c h⟩
theorem se_or (ha : SE G F k a) (hb : SE G F k b) : SE G F k (.or a b) := by
  have ks : ∀ {X : Cx} {e : Expr} {w : Bool}, Cd G F k X → chkE G X.env.scope w (.or a b) e = true → PE X e (tS X.K F (.or a b)) := fun {X e w} c h => by
    obtain ⟨x, y, r, p, rfl, h1, h2⟩ := inv_or h
    refine PEimp (pe_orT (ha.s c h1) (hb.s c h2)) fun σ H Q ⟨cs, Av, ρ, st, r, st', ok, cl, en, he, q⟩ => ?_
    obtain ⟨x, st1, t, e1, e2, e3⟩ := ev_or he
    refine ⟨cs, Av, ρ, st, x, st1, ok, cl, en, e1, fun v H1 x1 c1 r1 => ⟨t, tru_of (r1.1.w ok) e2, ?_⟩⟩
    have ok1 := ok.ext x1 c1
    rcases e3 with ⟨rfl, e3⟩ | ⟨rfl, rfl, rfl⟩
    · show (if false = true then _ else _)
      rw [if_neg (by decide)]
      exact ⟨cs, Av, ρ, st1, r, st', ok1, c1, en.ext ok x1, e3, fun v H2 x2 c2 r2 => q v H2 (x1.trans x2) c2 (r2.old x1 ok1)⟩
    · show (if true = true then _ else _)
      rw [if_pos rfl]
      exact q v H1 x1 c1 r1
  have kt : ∀ {X : Cx} {e : Expr} {w : Bool}, Cd G F k X → chkE G X.env.scope w (.or a b) e = true → PW X e (tT X.K F (.or a b)) := fun {X e w} c h => by
    obtain ⟨x, y, r, p, rfl, h1, h2⟩ := inv_or h
    refine ⟨fun wh pins s σ H Q I ⟨cs, Av, ρ, st, r, st', bb, ok, cl, en, he, ht, q⟩ => (pw_or (ha.t c h1) (hb.b c h2 rfl)).run wh pins s σ H Q I ?_⟩
    obtain ⟨x, st1, t, e1, e2, e3⟩ := ev_or he
    refine ⟨cs, Av, ρ, st, x, st1, t, ok, cl, en, e1, e2, fun H1 x1 c1 => ?_⟩
    have ok1 := ok.ext x1 c1
    rcases e3 with ⟨rfl, e3⟩ | ⟨rfl, rfl, rfl⟩
    · show (if false = true then _ else _)
      rw [if_neg (by decide)]
      exact ⟨cs, Av, ρ, st1, r, st', bb, ok1, c1, en.ext ok x1, e3, ht, fun H2 x2 c2 => q H2 (x1.trans x2) c2⟩
    · show (if true = true then _ else _)
      rw [if_pos rfl]
      rw [ht] at e2
      cases e2
      exact q H1 x1 c1
  exact ⟨fun c h => ks c h, fun c h => tS_w (ks c h), fun c h => (kt c h).pt, fun c h _ => kt c h⟩
theorem se_not (ha : SE G F k a) : SE G F k (.not a) := by
  have ev : ∀ {ρ st r st'}, evE F (.not a) ρ st = some (r, st') → ∃ x t, evE F a ρ st = some (x, st') ∧ truth x.d = some t ∧ r = .v (.bool (!t)) := fun {ρ st r st'} he => by
    simp only [evE] at he
    split at he
    · rename_i x st1 e1
      split at he
      · rename_i t e2; cases he; exact ⟨x, t, e1, e2, rfl⟩
      · cases he
    · cases he
  have ks : ∀ {X : Cx} {e : Expr} {w : Bool}, Cd G F k X → chkE G X.env.scope w (.not a) e = true → PE X e (tS X.K F (.not a)) := fun {X e w} c h => by
    obtain ⟨l, p, rfl, h1⟩ := inv_not h
    refine PEimp (pe_notT (ha.w c h1)) fun σ H Q ⟨cs, Av, ρ, st, r, st', ok, cl, en, he, q⟩ => ?_
    obtain ⟨x, t, e1, e2, rfl⟩ := ev he
    exact ⟨cs, Av, ρ, st, x, st', ok, cl, en, e1, fun v H1 x1 c1 r1 => ⟨t, tru_of r1 e2, q _ H1 x1 c1 (.vv (.bl _))⟩⟩
  refine ⟨fun c h => ks c h, fun c h => tS_w (ks c h), fun {X e w} c h => ?_, fun c h hb => ?_⟩
  · obtain ⟨l, p, rfl, h1⟩ := inv_not h
    refine PTimp (pt_not (ha.t c h1)) fun σ H Q ⟨cs, Av, ρ, st, r, st', bb, ok, cl, en, he, ht, q⟩ => ?_
    obtain ⟨x, t, e1, e2, rfl⟩ := ev he
    cases ht
    exact ⟨cs, Av, ρ, st, x, st', t, ok, cl, en, e1, e2, q⟩
  · obtain ⟨l, p, rfl, h1⟩ := inv_not h; cases hb
theorem pt_ifExp {c a b : Expr} {tc ta tb : TT} {pos : Pos} (hc : PT X c tc) (ha : PT X a ta) (hb : PT X b tb) : PT X (.IfExp c a b pos) (fun σ H Q => tc σ H fun k H1 => if k = true then ta σ H1 Q else tb σ H1 Q) := by
  refine ⟨fun pins s σ H Q I h => ?_⟩
  show wpAny _ _ (do if ← isTrue c X.env (eval c X.env) then isTrue a X.env (eval a X.env) else isTrue b X.env (eval b X.env)) _ _ _
  refine wpAny_bind (thn (hc.run pins s σ H _ I h) fun d s1 ⟨H1, I1, q1⟩ => ?_)
  cases d with
  | true => exact ha.run pins s1 σ H1 Q I1 q1
  | false => exact hb.run pins s1 σ H1 Q I1 q1
theorem se_ite (hc : SE G F k c) (ha : SE G F k a) (hb : SE G F k b) : SE G F k (.ite c a b) := by
  have ev : ∀ {ρ st r st'}, evE F (.ite c a b) ρ st = some (r, st') → ∃ x st1 t, evE F c ρ st = some (x, st1) ∧ truth x.d = some t ∧ ((t = true ∧ evE F a ρ st1 = some (r, st')) ∨ (t = false ∧ evE F b ρ st1 = some (r, st'))) := fun {ρ st r st'} he => by
    simp only [evE] at he
    split at he
    · rename_i x st1 e1
      refine ⟨x, st1, ?_⟩
      split at he
      · rename_i e2; exact ⟨true, e1, e2, .inl ⟨rfl, he⟩⟩
      · rename_i e2; exact ⟨false, e1, e2, .inr ⟨rfl, he⟩⟩
      · cases he
    · cases he
  have ks : ∀ {X : Cx} {e : Expr} {w : Bool}, Cd G F k X → chkE G X.env.scope w (.ite c a b) e = true → PE X e (tS X.K F (.ite c a b)) := fun {X e w} cd h => by
    obtain ⟨x, y, z, p, rfl, h1, h2, h3⟩ := inv_ite h
    refine PEimp (pe_ifExp (hc.t cd h1) (ha.s cd h2) (hb.s cd h3)) fun σ H Q ⟨cs, Av, ρ, st, r, st', ok, cl, en, he, q⟩ => ?_
    obtain ⟨x, st1, t, e1, e2, e3⟩ := ev he
    refine ⟨cs, Av, ρ, st, x, st1, t, ok, cl, en, e1, e2, fun H1 x1 c1 => ?_⟩
    have ok1 := ok.ext x1 c1
    rcases e3 with ⟨rfl, e3⟩ | ⟨rfl, e3⟩
    · show (if true = true then _ else _)
      rw [if_pos rfl]
      exact ⟨cs, Av, ρ, st1, r, st', ok1, c1, en.ext ok x1, e3, fun v H2 x2 c2 r2 => q v H2 (x1.trans x2) c2 (r2.old x1 ok1)⟩
    · show (if false = true then _ else _)
      rw [if_neg (by decide)]
      exact ⟨cs, Av, ρ, st1, r, st', ok1, c1, en.ext ok x1, e3, fun v H2 x2 c2 r2 => q v H2 (x1.trans x2) c2 (r2.old x1 ok1)⟩
  refine ⟨fun c h => ks c h, fun c h => tS_w (ks c h), fun {X e w} cd h => ?_, fun c h hb => ?_⟩
  · obtain ⟨x, y, z, p, rfl, h1, h2, h3⟩ := inv_ite h
    refine PTimp (pt_ifExp (hc.t cd h1) (ha.t cd h2) (hb.t cd h3)) fun σ H Q ⟨cs, Av, ρ, st, r, st', bb, ok, cl, en, he, ht, q⟩ => ?_
    obtain ⟨x, st1, t, e1, e2, e3⟩ := ev he
    refine ⟨cs, Av, ρ, st, x, st1, t, ok, cl, en, e1, e2, fun H1 x1 c1 => ?_⟩
    have ok1 := ok.ext x1 c1
    rcases e3 with ⟨rfl, e3⟩ | ⟨rfl, e3⟩
    · show (if true = true then _ else _)
      rw [if_pos rfl]
      exact ⟨cs, Av, ρ, st1, r, st', bb, ok1, c1, en.ext ok x1, e3, ht, fun H2 x2 c2 => q H2 (x1.trans x2) c2⟩
    · show (if false = true then _ else _)
      rw [if_neg (by decide)]
      exact ⟨cs, Av, ρ, st1, r, st', bb, ok1, c1, en.ext ok x1, e3, ht, fun H2 x2 c2 => q H2 (x1.trans x2) c2⟩
  · obtain ⟨x, y, z, p, rfl, _⟩ := inv_ite h; cases hb
end
end Ev

set_option Elab.async false
set_option linter.all false
set_option maxRecDepth 100000
set_option maxHeartbeats 4000000
/-! Expressions: subscripts, slices, calls, argument lists. -/
namespace Ev
variable [Zc]
open PySem PySem.Spec PyProof.Rows L2

section
variable {G : Ga} {sc : Scope} {e : Expr} {w : Bool}
theorem inv_callk {f es perm} (h : chkE G sc w (.callk f es perm) e = true) : ∃ x p kw kws p', e = .Call (.Name x p) [] (kw :: kws) p' ∧ fnIs G f x = true ∧ isGl sc x = true ∧ okN x = true ∧ kbIs G f (kw :: kws) perm = true ∧ chkKs G sc es (kw :: kws) = true := by
  cases e
  case Call g as ks p' =>
    cases g
    case Name x p =>
      match as, ks, h with
      | [], kw :: kws, h =>
        have h' : (fnIs G f x && isGl sc x && okN x && kbIs G f (kw :: kws) perm && chkKs G sc es (kw :: kws)) = true := h
        simp only [Bool.and_eq_true] at h'
        exact ⟨x, p, kw, kws, p', rfl, h'.1.1.1.1, h'.1.1.1.2, h'.1.1.2, h'.1.2, h'.2⟩
      | [], [], h => exact ff h
      | _ :: _, _, h => exact ff h
    all_goals exact ff h
  all_goals exact ff h
theorem inv_lrng {es} (h : chkE G sc w (.lrng es) e = true) : ∃ p p2 l p3 p4, e = .Call (.Name "list" p) [.Call (.Name "range" p2) l [] p3] [] p4 ∧ isGl sc "list" = true ∧ isGl sc "range" = true ∧ chkAs G sc false es l = true ∧ lenOk l = true := by
  cases e
  case Call g as ks p' =>
    cases g
    case Name x p =>
      match as, ks, h with
      | [y], [], h =>
        cases y
        case Call g2 l ks2 p3 =>
          cases g2
          case Name y p2 =>
            match ks2, h with
            | [], h =>
              have h' : (x == ("list" : Str) && isGl sc x && y == ("range" : Str) && isGl sc y && chkAs G sc false es l && lenOk l) = true := h
              simp only [Bool.and_eq_true] at h'
              obtain ⟨⟨⟨⟨⟨h1, h2⟩, h3⟩, h4⟩, h5⟩, h6⟩ := h'
              obtain rfl := eq_of_beq h1
              obtain rfl := eq_of_beq h3
              exact ⟨p, p2, l, p3, p', rfl, h2, h4, h5, h6⟩
            | _ :: _, h => exact ff h
          all_goals exact ff h
        all_goals exact ff h
      | [], _, h => exact ff h
      | _ :: _ :: _, _, h => simp [chkE] at h
      | [_], _ :: _, h => simp [chkE] at h
    all_goals exact ff h
  all_goals exact ff h
theorem inv_trng {es} (h : chkE G sc w (.trng es) e = true) : ∃ p p2 l p3 p4, e = .Call (.Name "tuple" p) [.Call (.Name "range" p2) l [] p3] [] p4 ∧ isGl sc "tuple" = true ∧ isGl sc "range" = true ∧ chkAs G sc false es l = true ∧ lenOk l = true := by
  cases e
  case Call g as ks p' =>
    cases g
    case Name x p =>
      match as, ks, h with
      | [y], [], h =>
        cases y
        case Call g2 l ks2 p3 =>
          cases g2
          case Name y p2 =>
            match ks2, h with
            | [], h =>
              have h' : (x == ("tuple" : Str) && isGl sc x && y == ("range" : Str) && isGl sc y && chkAs G sc false es l && lenOk l) = true := h
              simp only [Bool.and_eq_true] at h'
              obtain ⟨⟨⟨⟨⟨h1, h2⟩, h3⟩, h4⟩, h5⟩, h6⟩ := h'
              obtain rfl := eq_of_beq h1
              obtain rfl := eq_of_beq h3
              exact ⟨p, p2, l, p3, p', rfl, h2, h4, h5, h6⟩
            | _ :: _, h => exact ff h
          all_goals exact ff h
        all_goals exact ff h
      | [], _, h => exact ff h
      | _ :: _ :: _, _, h => simp [chkE] at h
      | [_], _ :: _, h => simp [chkE] at h
    all_goals exact ff h
  all_goals exact ff h
end
theorem plainIx_of {b : Expr} (h : plainSub b = true) : PlainIx b := fun o i => by
  cases b <;> first | rfl | exact ff h

section
variable {G : Ga} {F : FT} {k : Nat} {X : Cx} {e : Expr} {ce a b c : CE} {w : Bool}
theorem atI_rel {K : PySem.W.Frag} {cs : List Addr} {Av : Addr → Prop} {H : Hp} {vs : List V} {ds : List D} {i : Int} {z : D} (rs : Rps K cs Av H vs ds) (h : atI ds i = some z) : ∃ v, atI vs i = some v ∧ Rp K cs Av H v z := by
  unfold atI at h ⊢
  rw [rs.length]
  cases q : ixN ds.length i with
  | none => rw [q] at h; cases h
  | some j => rw [q] at h; exact rs.get h
theorem cellOf_eq {d : D} {n : Nat} (h : cellOf d = some n) : ∃ m : Int, d = .dict [(.none, .int m)] ∧ m.toNat = n := by
  unfold cellOf at h
  split at h
  · rename_i m; cases h; exact ⟨m, rfl, rfl⟩
  · cases h
/-- d[x], x a text -/
theorem ix_dct (hu : X.A.units + 1 < cLine) : IxR X (fun x y H Q => ∃ a v, x = .ref a ∧ DGet H a y (some v) ∧ Q v H) := by
  intro value slice pins s σ H x y v u Q I rx ry h hs
  obtain ⟨a, r, rfl, g, q⟩ := h
  obtain rfl : v = Value.ref a := rx
  exact tail_any (dict_typeIs I g) PySem.F.slot_dict_getitem.lookup (d_getItem hu I g ry fun w' s3 I3 rw' => ⟨r, H, I3, rw', q⟩) hs
theorem kOf_kD (k : L2.Key) : kOf (kD k) = some k := by cases k <;> rfl
theorem dAt_rel {K : PySem.W.Frag} {cs : List Addr} {Av : Addr → Prop} {H : Hp} {x : L2.Key} : ∀ {ks : List L2.Key} {vs : List V} {ds : List D}, ks.length = ds.length → Rps K cs Av H vs ds →
    (dAt ((ks.zip ds).map fun p => (kD p.1, p.2)) x = none ∧ valV (ks.zip vs) x = none) ∨ ∃ d v, dAt ((ks.zip ds).map fun p => (kD p.1, p.2)) x = some d ∧ valV (ks.zip vs) x = some v ∧ Rp K cs Av H v d := by
  intro ks
  induction ks with
  | nil => intro vs ds _ _; exact .inl ⟨rfl, rfl⟩
  | cons k ks ih =>
    intro vs ds hl r
    cases r with
    | nil => simp at hl
    | @cons v vs e ds r t =>
      simp only [List.length_cons, Nat.add_right_cancel_iff] at hl
      simp only [List.zip_cons_cons, List.map_cons, dAt, kOf_kD]
      by_cases hk : k = x
      · exact .inr ⟨e, v, by rw [if_pos hk], by simp [valV, hk], r⟩
      · have e1 : valV ((k, v) :: ks.zip vs) x = valV (ks.zip vs) x := by
          unfold valV
          rw [List.find?_cons_of_neg (by simp [hk])]
        rw [if_neg hk, e1]
        exact ih hl t
theorem dct_ne {n : Int} {ks : List L2.Key} {ds : List D} {p : Prop} (h : [(PyData.none, PyData.int n)] = (ks.zip ds).map (fun p => (kD p.1, p.2))) : p := by
  cases e : ks.zip ds with
  | nil => rw [e] at h; cases h
  | cons q r =>
    rw [e, List.map_cons] at h
    injection h with h1 h2
    injection h1 with h3 h4
    cases hq : q.1 with
    | inl i => rw [hq] at h3; cases h3
    | inr x => rw [hq] at h3; cases h3
abbrev ixAll (K : PySem.W.Frag) : R2 := fun x y H Q => rIxL K x y H Q ∨ (rIxT K x y H Q ∨ ∃ a v, x = .ref a ∧ DGet H a y (some v) ∧ Q v H)
theorem sub_imp {K : PySem.W.Frag} {i : CE} {σ : L2.St} {H : Hp} {Q : VK} (h : tS K F (.sub a i) σ H Q) : tOp (ixAll K) (tW K F a) (tS K F i) σ H Q := by
  obtain ⟨cs, Av, ρ, st, r, st', ok, cl, en, he, q⟩ := h
  simp only [evE] at he
  split at he
  · rename_i x st1 e1
    split at he
    · rename_i y st2 e2
      split at he
      · rename_i z e3
        simp only [Option.some.injEq, Prod.mk.injEq] at he
        obtain ⟨rfl, rfl⟩ := he
        refine ⟨cs, Av, ρ, st, x, st1, ok, cl, en, e1, fun v H1 x1 c1 r1 => ?_⟩
        have ok1 := ok.ext x1 c1
        refine ⟨cs, Av, ρ, st1, y, _, ok1, c1, en.ext ok x1, e2, fun u H2 x2 c2 r2 => ?_⟩
        have ok2 := ok1.ext x2 c2
        have r1' := r1.ext ok1 x2
        have x12 := x1.trans x2
        have r2' := r2.1.w ok1
        generalize hxd : x.d = xd at r1' e3
        generalize hyd : y.d = yd at r2' e3
        cases hcell : cellOf xd with
        | none =>
          have hl : look st2 xd = xd := by unfold look; rw [hcell]
          rw [hl] at e3
          unfold sub2 at e3
          split at e3
          · obtain ⟨a, vs, rfl, hs, rs⟩ := r1'.tuple
            obtain rfl := r2'.int
            obtain ⟨v, hv, rv⟩ := atI_rel rs e3
            exact .inr (.inl ⟨a, vs, _, v, rfl, rfl, hs.t, hv, q v H2 x12 c2 (.vv rv)⟩)
          · obtain ⟨a, vs, rfl, hs, rs⟩ := r1'.list
            obtain rfl := r2'.int
            obtain ⟨v, hv, rv⟩ := atI_rel rs e3
            exact .inl ⟨a, vs, _, v, rfl, rfl, hs, hv, q v H2 x12 c2 (.vv rv)⟩
          · obtain rfl := r2'.str
            rcases r1' with r1' | ⟨_, _, _, _, e, _⟩
            · cases r1' with
              | cell hn => simp [dAt, kOf] at e3
              | exc => simp [dAt, kOf] at e3
              | clo => simp [dAt, kOf] at e3
              | dct0 hH => simp [dAt] at e3
              | @dct a ks vs ds kd hH h0 hle rs hk =>
                subst hk
                rcases dAt_rel (x := .inr _) hle rs with ⟨z1, _⟩ | ⟨d', v, z1, z2, rv⟩
                · rw [z1] at e3; cases e3
                · rw [z1] at e3
                  cases e3
                  exact .inr (.inr ⟨a, v, rfl, .inl ⟨_, _, .inl hH, rfl, z2.symm⟩, q v H2 x12 c2 (.vv rv)⟩)
            · cases e
          · obtain rfl := r2'.int
            rcases r1' with r1' | ⟨_, _, _, _, e, _⟩
            · cases r1' with
              | cell hn => simp [dAt, kOf] at e3
              | exc => simp [dAt, kOf] at e3
              | clo => simp [dAt, kOf] at e3
              | dct0 hH => simp [dAt] at e3
              | @dct a ks vs ds kd hH h0 hle rs hk =>
                subst hk
                rcases dAt_rel (x := .inl _) hle rs with ⟨z1, _⟩ | ⟨d', v, z1, z2, rv⟩
                · rw [z1] at e3; cases e3
                · rw [z1] at e3
                  cases e3
                  exact .inr (.inr ⟨a, v, rfl, .inl ⟨_, _, .inl hH, rfl, z2.symm⟩, q v H2 x12 c2 (.vv rv)⟩)
            · cases e
          · cases e3
        | some n =>
          obtain ⟨m, rfl, rfl⟩ := cellOf_eq hcell
          have hl : look st2 (.dict [(.none, .int m)]) = match st2[m.toNat]? with | some ds => .list ds | none => .dict [(.none, .int m)] := rfl
          rw [hl] at e3
          split at e3
          · rename_i ds hds
            have hr : ∃ a, v = .ref a ∧ cs[m.toNat]? = some a := by
              rcases r1' with r1' | ⟨_, _, _, _, e, _⟩
              · cases r1' with
                | @cell a n' hn => exact ⟨a, rfl, by simpa using hn⟩
                | dct _ _ _ _ hk => exact dct_ne hk
              · cases e
            obtain ⟨a, rfl, hn⟩ := hr
            obtain ⟨vs, hvs, rs⟩ := c2.at_ _ a ds hn hds
            cases yd with
            | int j =>
              obtain rfl := r2'.int
              obtain ⟨v, hv, rv⟩ := atI_rel rs e3
              exact .inl ⟨a, vs, _, v, rfl, rfl, SqL.of hvs, hv, q v H2 x12 c2 (.vv rv)⟩
            | _ => simp [sub2] at e3
          · cases yd <;> simp [sub2, dAt, kOf] at e3
      · cases he
    · cases he
  · cases he
theorem se_sub {i : CE} (ha : SE G F k a) (hi : SE G F k i) : SE G F k (.sub a i) := SE.of (fun {X e w} c h => by
  obtain ⟨x, y, p, rfl, h1, h2, h3⟩ := inv_sub h
  exact PEimp (pe_ix (ix_list.or (ix_tup.or (ix_dct (by have := c.u; omega)))) (ha.w c h1) (hi.s c h2) (plainIx_of h3)) fun σ H Q h => sub_imp h) (fun h => by obtain ⟨x, y, p, rfl, _⟩ := inv_sub h; exact ⟨rfl, rfl⟩)
theorem se_rev (ha : SE G F k a) : SE G F k (.rev a) := SE.of (fun {X e w} c h => by
  obtain ⟨x, kk, p1, p2, p3, p, rfl, h1⟩ := inv_rev h
  refine PEimp (pe_rv (ha.w c h1)) fun σ H Q ⟨cs, Av, ρ, st, r, st', ok, cl, en, he, q⟩ => ?_
  simp only [evE] at he
  split at he
  · rename_i x st1 e1
    split at he
    · rename_i z e3
      simp only [Option.some.injEq, Prod.mk.injEq] at he
      obtain ⟨rfl, rfl⟩ := he
      refine ⟨cs, Av, ρ, st, x, _, ok, cl, en, e1, fun v H1 x1 c1 r1 => ?_⟩
      have ok1 := ok.ext x1 c1
      generalize hxd : x.d = xd at r1 e3
      unfold rev1 at e3
      split at e3
      · cases e3
        obtain ⟨a, vs, rfl, hs, rs⟩ := r1.tuple
        refine ⟨a, vs, rfl, .inl ⟨hs.t, fun p o ho hp => ?_⟩⟩
        have z : Ext [] H1 (upd H1 p (.frz o (.tup vs.reverse))) := Ext.upd hp
        exact q _ _ (x1.trans z.all) (c1.ext ok1 z) (.vv (.tup (SqD.new ho) (rs.reverse.ext ok1 z.all)))
      · cases e3
        obtain ⟨a, vs, rfl, hs, rs⟩ := r1.list
        refine ⟨a, vs, rfl, .inr ⟨hs, fun p hp => ?_⟩⟩
        have z : Ext [] H1 (upd H1 p (.lst vs.reverse)) := Ext.upd hp
        exact q _ _ (x1.trans z.all) (c1.ext ok1 z) (RpS.fresh (r := .o _) (lst_new ok1 hp rs.reverse) x1 ok1 c1 z)
      · cases e3
    · cases he
  · cases he) (fun h => by obtain ⟨x, kk, p1, p2, p3, p, rfl, h1⟩ := inv_rev h; exact ⟨rfl, rfl⟩)

/-! ### slices -/
theorem so_none : SO G F k .none := ⟨fun {X e} c h => by
  cases e with
  | some e => exact ff h
  | none =>
    refine ⟨fun pins s σ H Q I ⟨cs, Av, ρ, st, r, i, st', ok, cl, en, he, hi, q⟩ => po_none.run pins s σ H Q I ?_⟩
    simp only [evO] at he
    cases he
    cases hi
    exact q H (Ext.refl _ _) cl⟩
theorem so_some (ha : SE G F k a) : SO G F k (.some a) := ⟨fun {X e} c h => by
  cases e with
  | none => exact ff h
  | some e =>
    refine ⟨fun pins s σ H Q I ⟨cs, Av, ρ, st, r, i, st', ok, cl, en, he, hi, q⟩ => (po_some (ha.s c h)).run pins s σ H Q I ?_⟩
    simp only [evO] at he
    split at he
    · rename_i x st1 e1
      simp only [Option.some.injEq, Prod.mk.injEq] at he
      obtain ⟨rfl, rfl⟩ := he
      refine ⟨cs, Av, ρ, st, x, _, ok, cl, en, e1, fun v H1 x1 c1 r1 => ?_⟩
      have r1' := r1.1.w ok
      unfold asInt? at hi
      split at hi
      · cases hi; exact absurd ‹some x.d = none› (by simp)
      · rename_i j hj
        split at hi
        · cases hi
          have hj : x.d = .int j := Option.some.inj hj
          rw [hj] at r1'
          exact ⟨j, r1'.int, q H1 x1 c1⟩
        · cases hi
      · cases hi
    · cases he⟩
theorem cut_rel {K : PySem.W.Frag} {cs : List Addr} {Av : Addr → Prop} {H : Hp} {vs : List V} {ds : List D} {lo hi : Option Int} (rs : Rps K cs Av H vs ds) : Rps K cs Av H (cutV vs lo hi) (cut ds lo hi) := by
  unfold cutV cut
  rw [rs.length]
  exact (rs.drop _).take _
theorem cut_all {α : Type} {xs : List α} {lo hi : Option Int} (h1 : HT.sIx xs.length 0 lo = 0) (h2 : HT.sIx xs.length xs.length hi = xs.length) : cut xs lo hi = xs := by
  unfold cut
  rw [h1, h2]
  simp
theorem se_sl {lo hi : CEo} (ha : SE G F k a) (hl : SO G F k lo) (hh : SO G F k hi) : SE G F k (.sl a lo hi) := SE.of (fun {X e w} c h => by
  obtain ⟨x, l, u, p2, p, rfl, h1, h2, h3⟩ := inv_sl h
  refine PEimp (pe_slice (sl_tupD.or sl_list) (ha.w c h1) (hl.o c h2) (hh.o c h3)) fun σ H Q ⟨cs, Av, ρ, st, r, st', ok, cl, en, he, q⟩ => ?_
  simp only [evE] at he
  split at he
  · rename_i x st1 e1
    split at he
    · rename_i lv st2 e2
      split at he
      · rename_i hv st3 e3
        split at he
        · rename_i z e4
          simp only [Option.some.injEq, Prod.mk.injEq] at he
          obtain ⟨rfl, rfl⟩ := he
          refine ⟨cs, Av, ρ, st, x, st1, ok, cl, en, e1, fun v H1 x1 c1 r1 => ?_⟩
          have ok1 := ok.ext x1 c1
          have en1 := en.ext ok x1
          have hi1 : ∃ i, asInt? lv = some i := by
            unfold sl3 at e4
            split at e4 <;> first | exact ⟨_, by assumption⟩ | cases e4
          have hi2 : ∃ i, asInt? hv = some i := by
            unfold sl3 at e4
            split at e4 <;> first | exact ⟨_, by assumption⟩ | cases e4
          obtain ⟨i, hi1⟩ := hi1
          obtain ⟨j, hi2⟩ := hi2
          refine ⟨cs, Av, ρ, st1, lv, i, st2, ok1, c1, en1, e2, hi1, fun H2 x2 c2 => ?_⟩
          have ok2 := ok1.ext x2 c2
          have en2 := en1.ext ok1 x2
          refine ⟨cs, Av, ρ, st2, hv, j, _, ok2, c2, en2, e3, hi2, fun H3 x3 c3 => ?_⟩
          have ok3 := ok2.ext x3 c3
          have x13 := (x1.trans x2).trans x3
          have r1' := r1.ext ok1 (x2.trans x3)
          generalize hxd : x.d = xd at r1' e4
          unfold sl3 at e4
          rw [hi1, hi2] at e4
          cases xd with
          | tuple ds =>
            cases e4
            obtain ⟨a, vs, rfl, hs, rs⟩ := r1'.tuple
            refine .inl ⟨a, vs, rfl, hs.t, fun ⟨q1, q2⟩ => ?_, fun _ p o ho hp => ?_⟩
            · refine q _ H3 x13 c3 (.vv ?_)
              rw [rs.length] at q1 q2
              rw [cut_all q1 q2]
              exact .tup hs rs
            · have z : Ext [] H3 (upd H3 p (.frz o (.tup (cutV vs i j)))) := Ext.upd hp
              exact q _ _ (x13.trans z.all) (c3.ext ok3 z) (.vv (.tup (SqD.new ho) ((cut_rel rs).ext ok3 z.all)))
          | list ds =>
            cases e4
            obtain ⟨a, vs, rfl, hs, rs⟩ := r1'.list
            refine .inr ⟨a, vs, rfl, hs, fun p hp => ?_⟩
            have z : Ext [] H3 (upd H3 p (.lst (cutV vs i j))) := Ext.upd hp
            exact q _ _ (x13.trans z.all) (c3.ext ok3 z) (RpS.fresh (r := .o _) (lst_new ok3 hp (cut_rel rs)) x13 ok3 c3 z)
          | _ => cases e4
        · cases he
      · cases he
    · cases he
  · cases he) (fun h => by obtain ⟨x, l, u, p2, p, rfl, _⟩ := inv_sl h; exact ⟨rfl, rfl⟩)

/-! ### argument lists -/
theorem ses_nil : SEs G F k .nil := by
  have key : ∀ {X : Cx}, PA X [] (tAs X.K F .nil) := fun {X} => PAimp pa_nil fun σ H Q ⟨cs, Av, ρ, st, ds, st', ok, cl, en, he, q⟩ => by
    simp only [evEs] at he
    cases he
    exact q [] H (Ext.refl _ _) cl .nil
  have keyw : ∀ {X : Cx}, PA X [] (tAw X.K F .nil) := fun {X} => PAimp pa_nil fun σ H Q ⟨cs, Av, ρ, st, ds, st', ok, cl, en, he, q⟩ => by
    simp only [evEs] at he
    cases he
    exact q [] H (Ext.refl _ _) cl .nil
  refine ⟨fun {X l} c h => ?_, fun {X l} c h => ?_, fun {X l} c h => ?_⟩
  · cases l with
    | nil => exact key
    | cons => exact ff h
  · cases l with
    | nil => exact key
    | cons => exact ff h
  · cases l with
    | nil => exact keyw
    | cons => exact ff h
theorem evEs_cons {r : CEs} {ρ : Rho} {st st' : Sto} {ds : List D} (he : evEs F (.cons false a r) ρ st = some (ds, st')) : ∃ x st1 es, evE F a ρ st = some (x, st1) ∧ evEs F r ρ st1 = some (es, st') ∧ ds = x.d :: es := by
  simp only [evEs] at he
  split at he
  · rename_i x st1 e1
    split at he
    · rename_i es st2 e2
      simp only [Option.some.injEq, Prod.mk.injEq] at he
      obtain ⟨rfl, rfl⟩ := he
      exact ⟨x, st1, es, e1, e2, rfl⟩
    · cases he
  · cases he
theorem evEs_star {r : CEs} {ρ : Rho} {st st' : Sto} {ds : List D} (he : evEs F (.cons true a r) ρ st = some (ds, st')) : ∃ x st1 es xs, evE F a ρ st = some (x, st1) ∧ evEs F r ρ st1 = some (es, st') ∧ (x.d = .tuple xs ∨ x.d = .list xs) ∧ ds = xs ++ es := by
  simp only [evEs] at he
  split at he
  · rename_i x st1 e1
    split at he
    · rename_i es st2 e2
      split at he
      · rename_i h; cases h
      · rename_i xs _ hx
        simp only [Option.some.injEq, Prod.mk.injEq] at he
        obtain ⟨rfl, rfl⟩ := he
        exact ⟨x, st1, es, xs, e1, e2, .inl hx, rfl⟩
      · rename_i xs _ hx
        simp only [Option.some.injEq, Prod.mk.injEq] at he
        obtain ⟨rfl, rfl⟩ := he
        exact ⟨x, st1, es, xs, e1, e2, .inr hx, rfl⟩
      · cases he
    · cases he
  · cases he
theorem ses_cons {r : CEs} (ha : SE G F k a) (hr : SEs G F k r) : SEs G F k (.cons false a r) := by
  have key : ∀ {X : Cx} {e : Expr} {es : List Expr}, plainE e = true → PE X e (tS X.K F a) → PA X es (tAs X.K F r) → PA X (e :: es) (tAs X.K F (.cons false a r)) := fun {X e es} hp h1 h2 =>
    PAimp (pa_cons h1 h2 (star_plain hp es X.env)) fun σ H Q ⟨cs, Av, ρ, st, ds, st', ok, cl, en, he, q⟩ => by
      obtain ⟨x, st1, es', e1, e2, rfl⟩ := evEs_cons he
      refine ⟨cs, Av, ρ, st, x, st1, ok, cl, en, e1, fun v H1 x1 c1 r1 => ?_⟩
      have ok1 := ok.ext x1 c1
      refine ⟨cs, Av, ρ, st1, es', st', ok1, c1, en.ext ok x1, e2, fun vs H2 x2 c2 r2 => ?_⟩
      exact q _ H2 (x1.trans x2) c2 (.cons ((r1.1.rp ok.there).ext ok1 x2) r2)
  refine ⟨fun {X l} c h => ?_, fun {X l} c h => ?_, fun {X l} c h => ?_⟩
  · cases l with
    | nil => exact ff h
    | cons e es =>
      simp only [chkEs, Bool.and_eq_true] at h
      exact key h.1.1 (ha.s c h.1.2) (hr.a c h.2)
  · cases l with
    | nil => exact ff h
    | cons e es =>
      simp only [chkAs, Bool.and_eq_true] at h
      exact key h.1.1 (ha.s c h.1.2) (hr.p c h.2)
  · cases l with
    | nil => exact ff h
    | cons e es =>
      simp only [chkAs, Bool.and_eq_true] at h
      refine PAimp (pa_cons (ha.w c h.1.2) (hr.q c h.2) (star_plain h.1.1 es X.env)) fun σ H Q ⟨cs, Av, ρ, st, ds, st', ok, cl, en, he, q⟩ => ?_
      obtain ⟨x, st1, es', e1, e2, rfl⟩ := evEs_cons he
      refine ⟨cs, Av, ρ, st, x, st1, ok, cl, en, e1, fun v H1 x1 c1 r1 => ?_⟩
      have ok1 := ok.ext x1 c1
      refine ⟨cs, Av, ρ, st1, es', st', ok1, c1, en.ext ok x1, e2, fun vs H2 x2 c2 r2 => ?_⟩
      exact q _ H2 (x1.trans x2) c2 (.cons (r1.ext ok1 x2) r2)
theorem ses_star {r : CEs} (ha : SE G F k a) (hr : SEs G F k r) : SEs G F k (.cons true a r) := by
  refine ⟨fun {X l} c h => ?_, fun {X l} c h => ?_, fun {X l} c h => ?_⟩
  · cases l with
    | nil => exact ff h
    | cons e es =>
      cases e
      case Starred e p =>
        have h' : (chkE G X.env.scope true a e && chkEs G X.env.scope r es) = true := h
        simp only [Bool.and_eq_true] at h'
        refine PAimp (StX.pa_star (ha.w c h'.1) (hr.a c h'.2) rfl) fun σ H Q ⟨cs, Av, ρ, st, ds, st', ok, cl, en, he, q⟩ => ?_
        obtain ⟨x, st1, es', xs, e1, e2, hx, rfl⟩ := evEs_star he
        refine ⟨cs, Av, ρ, st, x, st1, ok, cl, en, e1, fun v H1 x1 c1 r1 => ?_⟩
        have ok1 := ok.ext x1 c1
        rcases hx with hx | hx
        · rw [hx] at r1
          obtain ⟨p, vs, rfl, hs, rs⟩ := r1.tuple
          refine ⟨p, vs, rfl, .inl hs.t, ?_⟩
          exact ⟨cs, Av, ρ, st1, es', st', ok1, c1, en.ext ok x1, e2, fun us H2 x2 c2 r2 => q _ H2 (x1.trans x2) c2 ((rs.ext ok1 x2).append r2)⟩
        · rw [hx] at r1
          obtain ⟨p, vs, rfl, hs, rs⟩ := r1.list
          refine ⟨p, vs, rfl, .inr hs, ?_⟩
          exact ⟨cs, Av, ρ, st1, es', st', ok1, c1, en.ext ok x1, e2, fun us H2 x2 c2 r2 => q _ H2 (x1.trans x2) c2 ((rs.ext ok1 x2).append r2)⟩
      all_goals exact ff h
  · cases l <;> exact ff h
  · cases l <;> exact ff h

/-! ### calls -/
theorem chkAs_hd {sc : Scope} {es : CEs} {y : Expr} {l : List Expr} {w : Bool} (h : chkAs G sc w es (y :: l) = true) (env : Env) (pos : Pos) : starEach (y :: l) env = (false, eval y env) :: starEach l env ∧ (backTo pos (starEach l env)).any (·.1) = false := by
  have := chkAs_plain h
  simp only [List.all_cons, Bool.and_eq_true] at this
  exact ⟨star_plain this.1 l env, nostar_any this.2⟩
theorem se_call {f : Nat} {es : CEs} (hs : SEs G F k es) : SE G F k (.call f es) := SE.of (fun {X e w} c h => by
  obtain ⟨x, p, y, l, p', rfl, h1, h2, h3, h4⟩ := inv_call h
  have hf : G.fn.lookup f = some x := by
    unfold fnIs at h1
    split at h1
    · rename_i z hz; rw [hz, eq_of_beq h1]
    · cases h1
  obtain ⟨a, fd, ps, hm, hk, FG, hb, hn, _⟩ := c.g.fn f x hf
  refine ⟨fun pins s σ H Q I ⟨cs, Av, ρ, st, r, st', ok, cl, en, he, q⟩ => ?_⟩
  simp only [evE] at he
  split at he
  · rename_i ds st1 e1
    refine wpAny_Call_Name_kw (ld_glob I (isGl_of h2) hm ?_ (okN_of h3).1)
    refine PySem.W.callWith_K (h₀ := X.base) I.ok.mod.kin hk (thn ((hs.p c h4).run p' pins s σ H (fun vs H1 => spF X.K (F f) ps.length vs H1 Q E0) I ⟨cs, Av, ρ, st, ds, st1, ok, cl, en, e1, fun vs H1 x1 c1 rs => ?_⟩) fun us s1 ⟨vs, H1, I1, rv, q1⟩ => ⟨I1.kIn, ?_⟩) (chkAs_hd h4 _ p').1 (chkAs_hd h4 _ p').2
    · have ok1 := ok.ext x1 c1
      exact ⟨by rw [rs.length]; exact hn _ _ _ he, cs, Av, ds, st1, r, st', ok1, c1, rs, he, fun v H' x2 c2 r2 => q v H' (x1.trans x2) c2 (r2.old x1 ok1)⟩
    · have hl : us.length = ps.length := by rw [← rv.length]; exact q1.1
      have hb' := hb s1 us I1.kIn (by simpa using hl)
      rw [List.append_nil] at hb'
      exact run_g FG c.rm c.gd hb' I1 rv q1
  · cases he) (fun h => by obtain ⟨x, p, y, l, p', rfl, _⟩ := inv_call h; exact ⟨rfl, rfl⟩)

def rKs (K : PySem.W.Frag) (F : FT) (ces : CEs) : TA := tAs K F ces
theorem pk_ok : ∀ {es : CEs} {kws : List Keyword}, (∀ {a r}, es = .cons false a r → SE G F k a) → True := fun _ => trivial
structure SKs (G : Ga) (F : FT) (k : Nat) (ces : CEs) : Prop where
  k : ∀ {X : Cx} {l : List Keyword}, Cd G F k X → chkKs G X.env.scope ces l = true → PK X l (tAs X.K F ces)
theorem sks_nil : SKs G F k .nil := ⟨fun {X l} c h => by
  cases l with
  | cons => exact ff h
  | nil =>
    refine ⟨fun pos pins s σ H Q I ⟨cs, Av, ρ, st, ds, st', ok, cl, en, he, q⟩ => pk_nil.run pos pins s σ H Q I ?_⟩
    simp only [evEs] at he
    cases he
    exact q [] H (Ext.refl _ _) cl .nil⟩
theorem sks_cons {r : CEs} (ha : SE G F k a) (hr : SKs G F k r) : SKs G F k (.cons false a r) := ⟨fun {X l} c h => by
  cases l with
  | nil => exact ff h
  | cons e es =>
    obtain ⟨nm, e, kp⟩ := e
    have h' : (chkE G X.env.scope false a e && chkKs G X.env.scope r es) = true := h
    simp only [Bool.and_eq_true] at h'
    refine ⟨fun pos pins s σ H Q I ⟨cs, Av, ρ, st, ds, st', ok, cl, en, he, q⟩ => (pk_cons (ha.s c h'.1) (hr.k c h'.2)).run pos pins s σ H Q I ?_⟩
    obtain ⟨x, st1, es', e1, e2, rfl⟩ := evEs_cons he
    refine ⟨cs, Av, ρ, st, x, st1, ok, cl, en, e1, fun v H1 x1 c1 r1 => ?_⟩
    have ok1 := ok.ext x1 c1
    refine ⟨cs, Av, ρ, st1, es', st', ok1, c1, en.ext ok x1, e2, fun vs H2 x2 c2 r2 => ?_⟩
    exact q _ H2 (x1.trans x2) c2 (.cons ((r1.1.rp ok.there).ext ok1 x2) r2)⟩
theorem sks_star {r : CEs} : SKs G F k (.cons true a r) := ⟨fun {X l} c h => by cases l <;> exact ff h⟩
theorem kw_names {env : Env} {pos : Pos} : ∀ {kws : List Keyword} {ks : List Str}, kwNames kws = some ks → (backToKw pos (keywordEach kws env)).all (·.1.isSome) = true ∧ (backToKw pos (keywordEach kws env)).filterMap (·.1) = ks ∧ (backToKw pos (keywordEach kws env)).any (·.1.isNone) = false
  | [], ks, h => by cases h; exact ⟨rfl, rfl, rfl⟩
  | ⟨none, e, p⟩ :: r, ks, h => by cases h
  | ⟨some n, e, p⟩ :: r, ks, h => by
    obtain ⟨ms, hm, rfl⟩ := Option.map_eq_some_iff.mp h
    obtain ⟨h1, h2, h3⟩ := kw_names (env := env) (pos := pos) hm
    refine ⟨?_, ?_, ?_⟩
    · show (true && (backToKw pos (keywordEach r env)).all (·.1.isSome)) = true
      rw [h1]; rfl
    · show n :: (backToKw pos (keywordEach r env)).filterMap (·.1) = n :: ms
      rw [h2]
    · show (false || (backToKw pos (keywordEach r env)).any (·.1.isNone)) = false
      rw [h3]; rfl
theorem Rps.getD {K : PySem.W.Frag} {cs : List Addr} {Av : Addr → Prop} {H : Hp} : ∀ {vs : List V} {ds : List D} (i : Nat), Rps K cs Av H vs ds → Rp K cs Av H (vs.getD i .non) (ds.getD i .none)
  | _, _, _, .nil => by simpa using .non
  | _, _, 0, .cons r _ => by simpa using r
  | _, _, i + 1, .cons _ t => by simpa using Rps.getD i t
theorem Rps.perm {K : PySem.W.Frag} {cs : List Addr} {Av : Addr → Prop} {H : Hp} {vs : List V} {ds : List D} (h : Rps K cs Av H vs ds) : ∀ perm : List Nat, Rps K cs Av H (perm.map fun i => vs.getD i .non) (permD ds perm)
  | [] => .nil
  | i :: r => .cons (h.getD i) (h.perm r)
theorem vals_getD : ∀ {vs : List V} {us : List Value} (i : Nat), Vals vs us → RelV (vs.getD i .non) (us.getD i .none)
  | _, _, _, .nil => by simp; rfl
  | _, _, 0, .cons r _ => by simpa using r
  | _, _, i + 1, .cons _ t => by simpa using vals_getD i t
theorem vals_perm {vs : List V} {us : List Value} (h : Vals vs us) : ∀ perm : List Nat, Vals (perm.map fun i => vs.getD i .non) (perm.map fun i => us.getD i .none)
  | [] => .nil
  | i :: r => .cons (vals_getD i h) (vals_perm h r)
theorem kw_len : ∀ {kws : List Keyword} {ks : List Str}, kwNames kws = some ks → ks.length = kws.length
  | [], ks, h => by cases h; rfl
  | ⟨none, e, p⟩ :: r, ks, h => by cases h
  | ⟨some n, e, p⟩ :: r, ks, h => by
    obtain ⟨ms, hm, rfl⟩ := Option.map_eq_some_iff.mp h
    simp [kw_len hm]
theorem chkKs_len {sc : Scope} : ∀ {es : CEs} {kws : List Keyword} {ρ : Rho} {st st' : Sto} {ds : List D}, chkKs G sc es kws = true → evEs F es ρ st = some (ds, st') → ds.length = kws.length
  | .nil, [], ρ, st, st', ds, _, he => by simp only [evEs] at he; cases he; rfl
  | .nil, _ :: _, ρ, st, st', ds, h, _ => ff h
  | .cons true _ _, [], ρ, st, st', ds, h, _ => ff h
  | .cons true _ _, _ :: _, ρ, st, st', ds, h, _ => ff h
  | .cons false _ _, [], ρ, st, st', ds, h, _ => ff h
  | .cons false c r, ⟨_, e, _⟩ :: ks, ρ, st, st', ds, h, he => by
    have h' : (chkE G sc false c e && chkKs G sc r ks) = true := h
    simp only [Bool.and_eq_true] at h'
    obtain ⟨x, st1, es', e1, e2, rfl⟩ := evEs_cons he
    simp [chkKs_len h'.2 e2]
theorem chkAs_len {sc : Scope} {w : Bool} : ∀ {es : CEs} {l : List Expr} {ρ : Rho} {st st' : Sto} {ds : List D}, chkAs G sc w es l = true → evEs F es ρ st = some (ds, st') → ds.length = l.length
  | .nil, [], ρ, st, st', ds, _, he => by simp only [evEs] at he; cases he; rfl
  | .nil, _ :: _, ρ, st, st', ds, h, _ => ff h
  | .cons true _ _, [], ρ, st, st', ds, h, _ => ff h
  | .cons true _ _, _ :: _, ρ, st, st', ds, h, _ => ff h
  | .cons false _ _, [], ρ, st, st', ds, h, _ => ff h
  | .cons false c r, e :: ks, ρ, st, st', ds, h, he => by
    simp only [chkAs, Bool.and_eq_true] at h
    obtain ⟨x, st1, es', e1, e2, rfl⟩ := evEs_cons he
    simp [chkAs_len h.2 e2]
theorem se_callk {f : Nat} {es : CEs} {perm : List Nat} (hs : SKs G F k es) : SE G F k (.callk f es perm) := SE.of (fun {X e w} c h => by
  obtain ⟨x, p, kw, kws, p', rfl, h1, h2, h3, h4, h5⟩ := inv_callk h
  have hf : G.fn.lookup f = some x := by
    unfold fnIs at h1
    split at h1
    · rename_i z hz; rw [hz, eq_of_beq h1]
    · cases h1
  have hkb : ∃ ks, kwNames (kw :: kws) = some ks ∧ (f, ks, perm) ∈ G.kb := by
    unfold kbIs at h4
    split at h4
    · rename_i ks hks
      refine ⟨ks, hks, ?_⟩
      rw [List.any_eq_true] at h4
      obtain ⟨⟨q1, q2, q3⟩, hm, hq⟩ := h4
      simp only [Bool.and_eq_true] at hq
      obtain ⟨e1, e2, e3⟩ := hq
      obtain rfl := eq_of_beq e1
      obtain rfl := eq_of_beq e2
      obtain rfl := eq_of_beq e3
      exact hm
    · cases h4
  obtain ⟨ks, hks, hmem⟩ := hkb
  obtain ⟨a, fd, ps, hm, hk, FG, hb, hn, hkw⟩ := c.g.fn f x hf
  obtain ⟨hpl, hkw⟩ := hkw ks perm hmem
  refine ⟨fun pins s σ H Q I ⟨cs, Av, ρ, st, r, st', ok, cl, en, he, q⟩ => ?_⟩
  simp only [evE] at he
  split at he
  · rename_i ds st1 e1
    refine wpAny_Call_Name_kw (ld_glob I (isGl_of h2) hm ?_ (okN_of h3).1)
    obtain ⟨k1, k2, k3⟩ := kw_names (env := X.env) (pos := p') hks
    refine PySem.W.callWith_KW0 (h₀ := X.base) I.ok.mod.kin hk k1 (thn ((hs.k c h5).run p' pins s σ H (fun vs H1 => vs.length = ks.length ∧ spF X.K (F f) ps.length (perm.map fun i => vs.getD i .non) H1 Q E0) I ⟨cs, Av, ρ, st, ds, st1, ok, cl, en, e1, fun vs H1 x1 c1 rs => ?_⟩) fun us s1 ⟨vs, H1, I1, rv, q1⟩ => ⟨I1.kIn, ?_⟩) ?_
    · have ok1 := ok.ext x1 c1
      refine ⟨?_, by simpa using hpl, cs, Av, permD ds perm, st1, r, st', ok1, c1, rs.perm perm, he, fun v H' x2 c2 r2 => q v H' (x1.trans x2) c2 (r2.old x1 ok1)⟩
      rw [rs.length, chkKs_len h5 e1, kw_len hks]
    · rw [k2]
      have hb' : BindsTo s1 fd ⟨[], ks.zip us⟩ (ps.zip (perm.map fun i => us.getD i .none)) := BindsTo.of_eq (hkw us (by rw [← rv.length]; exact q1.1))
      exact run_g FG c.rm c.gd hb' I1 (vals_perm rv perm) q1.2
    · rw [k3]; rfl
  · cases he) (fun h => by obtain ⟨x, p, kw, kws, p', rfl, _⟩ := inv_callk h; exact ⟨rfl, rfl⟩)
end
end Ev

set_option Elab.async false
set_option linter.all false
set_option maxRecDepth 100000
set_option maxHeartbeats 4000000
/-! Expressions: builtins, isinstance, list(range(..)). -/
namespace Ev
variable [Zc]
open PySem PySem.Spec PyProof.Rows L2
section
variable {G : Ga} {F : FT} {k : Nat} {X : Cx} {e : Expr} {ce a b c : CE} {w : Bool}
theorem okN_name {x : Str} (h : okN x = true) : x ≠ "__name__" := (okN_of h).2.2
theorem se_blt {bl : Bl} {es : CEs} (hs : SEs G F k es) : SE G F k (.blt bl es) := SE.of (fun {X e w} c h => by
  obtain ⟨p, y, l, p', rfl, h2, h3, h4⟩ := inv_blt h
  have key : PE X (.Call (.Name (bltName bl) p) (y :: l) [] p') (tCB (rBl X.K bl) (tAw X.K F es)) := by
    have cr := bl_ok c.calm c.gd c.u bl
    rcases bltV_boot bl with ⟨n, hv, hb⟩ | ⟨n, hv, hb⟩
    · rw [hv] at cr
      exact pe_callB cr (isGl_of h2) (blt_ok c bl) hb (hs.q c h4) (okN_of h3).2.2 (okN_of h3).1 (chkAs_hd h4 _ p').1 (chkAs_hd h4 _ p').2
    · rw [hv] at cr
      exact pe_callTy cr (isGl_of h2) (blt_ok c bl) hb (hs.q c h4) (okN_of h3).2.2 (okN_of h3).1 (chkAs_hd h4 _ p').1 (chkAs_hd h4 _ p').2
  refine PEimp key fun σ H Q ⟨cs, Av, ρ, st, r, st', ok, cl, en, he, q⟩ => ?_
  simp only [evE] at he
  split at he
  · rename_i ds st1 e1
    split at he
    · rename_i z e2
      simp only [Option.some.injEq, Prod.mk.injEq] at he
      obtain ⟨rfl, rfl⟩ := he
      refine ⟨cs, Av, ρ, st, ds, _, ok, cl, en, e1, fun vs H1 x1 c1 r1 => ?_⟩
      have ok1 := ok.ext x1 c1
      exact ⟨cs, Av, ds, z, ok1, r1, e2, fun v H' x2 r2 => q v H' (x1.trans x2.all) (c1.ext ok1 x2) (.fresh r2 x1 ok1 c1 x2)⟩
    · cases he
  · cases he) (fun h => by obtain ⟨p, y, l, p', rfl, _⟩ := inv_blt h; exact ⟨rfl, rfl⟩)

/-! ### isinstance -/
def dTy : D → String
  | .none => "NoneType" | .bool _ => "bool" | .int _ => "int" | .str _ => "str" | .list _ => "list" | .tuple _ => "tuple" | .dict _ => "dict"
def tyStr : Ty → String
  | .int => "int" | .bool => "bool" | .str => "str" | .tup => "tuple" | .lst => "list"
theorem isi_kit {t : Ty} {d : D} {r : Bool} (h : isi t d = some r) : kitB (dTy d) (tyStr t) = some r := by
  cases d with
  | dict kvs =>
    have e : r = false := by
      unfold isi at h
      cases t <;> (split at h <;> first | (cases h; done) | (cases h; rfl) | (rename_i e1 e2; cases e2))
    subst e
    cases t <;> (dsimp only [dTy, tyStr]; decide +kernel)
  | _ => cases t <;> cases h <;> dsimp only [dTy, tyStr] <;> decide +kernel
theorem isi_ty {K : PySem.W.Frag} {cs : List Addr} {Av : Addr → Prop} {H : Hp} {v : V} {d : D} (rw : Rw K cs Av H v d) (hd : ∀ y xs, d ≠ .dict ((.none, y) :: xs)) : TyX K H v (.type (dTy d)) := by
  cases d with
  | none =>
    rcases rw with rw | ⟨_, _, _, _, e, _⟩
    · cases rw; exact .base .non
    · cases e
  | bool b => obtain rfl := rw.bool; exact .base (.bl b)
  | int b => obtain rfl := rw.int; exact .base (.int b)
  | str b => obtain rfl := rw.str; exact .base (.str b)
  | list ds =>
    obtain ⟨a, vs, rfl, hs, rs⟩ := rw.list
    rcases hs with (hs | ⟨o, hs⟩) | ⟨o, its, n, hl, hc, _⟩
    · exact .base (.lst hs)
    · exact .base (.frz hs)
    · exact .kList hl hc
  | tuple ds =>
    obtain ⟨a, vs, rfl, hs, rs⟩ := rw.tuple
    rcases hs.t with (hs | ⟨o, hs⟩) | ⟨o, its, n, hl, hc, _⟩
    · exact .base (.tup hs)
    · exact .fTuple hs
    · exact .kTuple hl hc
  | dict kd =>
    rcases rw with rw | ⟨_, _, _, _, e, _⟩
    · cases rw with
      | cell hn => exact absurd rfl (hd _ _)
      | exc => exact absurd rfl (hd _ _)
      | clo => exact absurd rfl (hd _ _)
      | dct hH h0 hl rs hk => exact .base (.dK hH)
      | dct0 hH => exact .base (.dT hH)
    · cases e
theorem se_isi {t : Ty} (ha : SE G F k a) : SE G F k (.isi t a) := SE.of (fun {X e w} c h => by
  obtain ⟨p, y, p2, p', rfl, h1, h2, h3, h4⟩ := inv_isi h
  have hmi : X.mg "isinstance" = none := c.g.blt _ (by simp [bltNames])
  have hmt : X.mg (tyName t) = none := c.g.blt _ (by cases t <;> simp [tyName, bltNames])
  have hbt : bootBuiltins (tyName t) = some (.type (tyStr t)) := by cases t <;> decide +kernel
  have hn : tyName t ≠ "__name__" := by cases t <;> decide
  have hd : (tyName t == ("__debug__" : Str)) = false := by cases t <;> decide
  have pt : PE X (.Name (tyName t) p2) (tC (.ty (tyStr t))) := pe_bltn (isGl_of h2) hmt hbt rfl hn hd
  refine PEimp (pe_callB call_isi (isGl_of h1) hmi (by decide +kernel) (pa_cons (ha.w c h4) (pa_cons pt pa_nil rfl) (star_plain h3 _ _)) (by decide) (by decide) (star_plain h3 _ _) rfl) fun σ H Q ⟨cs, Av, ρ, st, r, st', ok, cl, en, he, q⟩ => ?_
  simp only [evE] at he
  split at he
  · rename_i x st1 e1
    split at he
    · rename_i b e2
      simp only [Option.some.injEq, Prod.mk.injEq] at he
      obtain ⟨rfl, rfl⟩ := he
      refine ⟨cs, Av, ρ, st, x, _, ok, cl, en, e1, fun v H1 x1 c1 r1 => ?_⟩
      refine ⟨v, .ty (tyStr t), .type (dTy x.d), .type (tyStr t), b, rfl, .ty _, isi_ty r1 (fun y xs hx => ?_), kit_ty (isi_kit e2), q _ H1 x1 c1 (.vv (.bl b))⟩
      rw [hx] at e2
      cases t <;> cases e2
    · cases he
  · cases he) (fun h => by obtain ⟨p, y, p2, p', rfl, _⟩ := inv_isi h; exact ⟨rfl, rfl⟩)

/-! ### list(range(..)), tuple(range(..)) -/
def tRgA (ta : TA) : L2.St → Hp → (Int → Int → Hp → Prop) → Prop := fun σ H Q => ta σ H fun vs H1 => (∃ j : Int, vs = [.int j] ∧ Q 0 j H1) ∨ ∃ i j : Int, vs = [.int i, .int j] ∧ Q i j H1
theorem prg_A {l : List Expr} {ta : TA} {p pos : Pos} (hl : lenOk l = true) (hp : l.all plainE = true) (hg : Gl X "range") (hm : X.mg "range" = none) (ha : PA X l ta) : PRg X (.Call (.Name "range" p) l [] pos) (tRgA ta) := by
  intro pins s σ H Q I h
  match l, hl with
  | [x], _ =>
    simp only [List.all_cons, List.all_nil, Bool.and_true] at hp
    refine Call_ (ld_blt I hg hm boot_range (PyProof.Rows.callWith_type1 (thn (ha.run pos pins s σ H _ I h) fun us s1 ⟨vs, H1, I1, r1, q1⟩ => ?_) (star_plain hp [] X.env) rfl))
    rcases q1 with ⟨j, rfl, q⟩ | ⟨i, j, rfl, q⟩
    · cases r1 with
      | cons r rr =>
        cases rr
        obtain ⟨t, rfl⟩ := r
        exact call_range_1 ⟨_, 0, j, _, _, _, H1, rfl, IsRange.new _ _ _ _ _ _ _, I1.kept fun b u e => Heap.get?_push_of_some _ e, q⟩
    · cases r1 with
      | cons r rr =>
        cases rr with
        | cons r' rr =>
          cases rr
          obtain ⟨t, rfl⟩ := r
          obtain ⟨t', rfl⟩ := r'
          exact call_range_2 ⟨_, i, j, _, _, _, H1, rfl, IsRange.new _ _ _ _ _ _ _, I1.kept fun b u e => Heap.get?_push_of_some _ e, q⟩
  | [x, y], _ =>
    simp only [List.all_cons, List.all_nil, Bool.and_true, Bool.and_eq_true] at hp
    refine Call_ (ld_blt I hg hm boot_range (PyProof.Rows.callWith_type1 (thn (ha.run pos pins s σ H _ I h) fun us s1 ⟨vs, H1, I1, r1, q1⟩ => ?_) (star_plain hp.1 [y] X.env) (nostar_any (by simp [hp.2]))))
    rcases q1 with ⟨j, rfl, q⟩ | ⟨i, j, rfl, q⟩
    · cases r1 with
      | cons r rr =>
        cases rr
        obtain ⟨t, rfl⟩ := r
        exact call_range_1 ⟨_, 0, j, _, _, _, H1, rfl, IsRange.new _ _ _ _ _ _ _, I1.kept fun b u e => Heap.get?_push_of_some _ e, q⟩
    · cases r1 with
      | cons r rr =>
        cases rr with
        | cons r' rr =>
          cases rr
          obtain ⟨t, rfl⟩ := r
          obtain ⟨t', rfl⟩ := r'
          exact call_range_2 ⟨_, i, j, _, _, _, H1, rfl, IsRange.new _ _ _ _ _ _ _, I1.kept fun b u e => Heap.get?_push_of_some _ e, q⟩
theorem small_iff {i : Int} (h : small i = true) : -(2 ^ 40) < i ∧ i < 2 ^ 40 := by simpa [small] using h
theorem Rps.rng {K : PySem.W.Frag} {cs : List Addr} {Av : Addr → Prop} {H : Hp} (lo : Int) (l : List Nat) : Rps K cs Av H (l.map fun i => V.int (lo + (i : Nat))) (l.map fun i => PyData.int (lo + (i : Nat))) := by
  induction l with
  | nil => exact .nil
  | cons x r ih => exact .cons (.int _) ih
theorem rangeOf_12 {ds z : List D} (h : rangeOf ds = some z) (hl : ds.length ≤ 2) : ∃ i j : Int, RgOk i j ∧ z = rangeL i (j - i).toNat ∧ ((ds = [.int j] ∧ i = 0) ∨ ds = [.int i, .int j]) := by
  unfold rangeOf at h
  split at h
  · rename_i j
    split at h
    · rename_i hs
      simp only [Bool.and_eq_true, decide_eq_true_eq] at hs
      have := small_iff hs.1
      have hm : j ≤ 100000 := hs.2
      cases h
      refine ⟨0, j, ⟨by omega, by omega, by omega, by omega, by omega⟩, by simp, .inl ⟨rfl, rfl⟩⟩
    · cases h
  · rename_i i j
    split at h
    · rename_i hs
      simp only [Bool.and_eq_true, decide_eq_true_eq] at hs
      have h1 := small_iff hs.1.1
      have h2 := small_iff hs.1.2
      have hm : j - i ≤ 100000 := hs.2
      cases h
      exact ⟨i, j, ⟨by omega, by omega, by omega, by omega, by omega⟩, rfl, .inr rfl⟩
    · cases h
  · simp at hl
  · cases h
theorem rps_range_in {K : PySem.W.Frag} {cs : List Addr} {Av : Addr → Prop} {H : Hp} {vs : List V} {ds : List D} {i j : Int} {Q : Int → Int → Hp → Prop} (r : Rps K cs Av H vs ds) (h : (ds = [.int j] ∧ i = 0) ∨ ds = [.int i, .int j]) (q : Q i j H) :
    (∃ j : Int, vs = [.int j] ∧ Q 0 j H) ∨ ∃ i j : Int, vs = [.int i, .int j] ∧ Q i j H := by
  rcases h with ⟨rfl, rfl⟩ | rfl
  · cases r with
    | cons r t =>
      cases t
      cases r
      exact .inl ⟨j, rfl, q⟩
  · cases r with
    | cons r t =>
      cases t with
      | cons r' t =>
        cases t
        cases r
        cases r'
        exact .inr ⟨i, j, rfl, q⟩
theorem lenOk_le {l : List Expr} (h : lenOk l = true) : l.length ≤ 2 := by
  match l, h with
  | [_], _ => simp
  | [_, _], _ => simp
theorem se_lrng {es : CEs} (hs : SEs G F k es) : SE G F k (.lrng es) := SE.of (fun {X e w} c h => by
  obtain ⟨p, p2, l, p3, p4, rfl, h1, h2, h3, h4⟩ := inv_lrng h
  have hm1 : X.mg "list" = none := c.g.blt _ (by simp [bltNames])
  have hm2 : X.mg "range" = none := c.g.blt _ (by simp [bltNames])
  refine PEimp (pe_listRg c.calm (isGl_of h1) hm1 (prg_A h4 (chkAs_plain h3) (isGl_of h2) hm2 (hs.p c h3))) fun σ H Q ⟨cs, Av, ρ, st, r, st', ok, cl, en, he, q⟩ => ?_
  simp only [evE] at he
  split at he
  · rename_i ds st1 e1
    split at he
    · rename_i z e2
      simp only [Option.some.injEq, Prod.mk.injEq] at he
      obtain ⟨rfl, rfl⟩ := he
      obtain ⟨i, j, hr, rfl, hd⟩ := rangeOf_12 e2 (by rw [chkAs_len h3 e1]; exact lenOk_le h4)
      refine ⟨cs, Av, ρ, st, ds, _, ok, cl, en, e1, fun vs H1 x1 c1 r1 => ?_⟩
      have ok1 := ok.ext x1 c1
      refine rps_range_in (Q := fun a b H1 => RgOk a b ∧ ∀ q, H1 q = none → Q (.ref q) (upd H1 q (.lst (rgV a b)))) r1 hd ⟨hr, fun p hp => ?_⟩
      have z : Ext [] H1 (upd H1 p (.lst (rgV i j))) := Ext.upd hp
      exact q _ _ (x1.trans z.all) (c1.ext ok1 z) (RpS.fresh (r := .o _) (lst_new ok1 hp (Rps.rng i _)) x1 ok1 c1 z)
    · cases he
  · cases he) (fun h => by obtain ⟨p, p2, l, p3, p4, rfl, _⟩ := inv_lrng h; exact ⟨rfl, rfl⟩)
theorem se_trng {es : CEs} (hs : SEs G F k es) : SE G F k (.trng es) := SE.of (fun {X e w} c h => by
  obtain ⟨p, p2, l, p3, p4, rfl, h1, h2, h3, h4⟩ := inv_trng h
  have hm1 : X.mg "tuple" = none := c.g.blt _ (by simp [bltNames])
  have hm2 : X.mg "range" = none := c.g.blt _ (by simp [bltNames])
  refine PEimp (pe_tupRgD c.calm (isGl_of h1) hm1 (prg_A h4 (chkAs_plain h3) (isGl_of h2) hm2 (hs.p c h3))) fun σ H Q ⟨cs, Av, ρ, st, r, st', ok, cl, en, he, q⟩ => ?_
  simp only [evE] at he
  split at he
  · rename_i ds st1 e1
    split at he
    · rename_i z e2
      simp only [Option.some.injEq, Prod.mk.injEq] at he
      obtain ⟨rfl, rfl⟩ := he
      obtain ⟨i, j, hr, rfl, hd⟩ := rangeOf_12 e2 (by rw [chkAs_len h3 e1]; exact lenOk_le h4)
      refine ⟨cs, Av, ρ, st, ds, _, ok, cl, en, e1, fun vs H1 x1 c1 r1 => ?_⟩
      have ok1 := ok.ext x1 c1
      refine rps_range_in (Q := fun a b H1 => RgOk a b ∧ nT Q H1 (rgV a b)) r1 hd ⟨hr, fun p o ho hp => ?_⟩
      have z : Ext [] H1 (upd H1 p (.frz o (.tup (rgV i j)))) := Ext.upd hp
      exact q _ _ (x1.trans z.all) (c1.ext ok1 z) (.vv (.tup (SqD.new ho) (Rps.rng i _)))
    · cases he
  · cases he) (fun h => by obtain ⟨p, p2, l, p3, p4, rfl, _⟩ := inv_trng h; exact ⟨rfl, rfl⟩)
end
end Ev

set_option Elab.async false
set_option linter.all false
set_option maxRecDepth 100000
set_option maxHeartbeats 4000000
/-! What a loop walks. -/
namespace Ev
variable [Zc]
open PySem PySem.Spec PyProof.Rows L2

def enumD (ds : List D) : List D := ds.zipIdx.map (fun p => .tuple [.int (p.2 : Nat), p.1])
def zipD (xs ys : List D) : List D := (xs.zip ys).map (fun p => .tuple [p.1, p.2])
/-- an iterator over these data -/
inductive Wk (K : PySem.W.Frag) (cs : List Addr) (Av P : Addr → Prop) (H : Hp) : Bool → It → List D → Prop
  | lst {a : Addr} {vs : List V} {ds : List D} : Na K P a vs → SqL K H a vs → Rps K cs Av H vs ds → Wk K cs Av P H false (Itl K a) ds
  | tup {a : Addr} {vs : List V} {ds : List D} : SqT K H a vs → Rps K cs Av H vs ds → Wk K cs Av P H false (Itt K a) ds
  | rng (lo : Int) (n : Nat) : Wk K cs Av P H false (Itr lo n) (rangeL lo n)
  | rngc (lo c : Int) (n : Nat) : Wk K cs Av P H false (Itc lo c n) (rangeStep lo c n)
  | enL {a : Addr} {vs : List V} {ds : List D} : Na K P a vs → SqL K H a vs → Rps K cs Av H vs ds → Wk K cs Av P H true (Ite K a) (enumD ds)
  | enT {a : Addr} {vs : List V} {ds : List D} : SqT K H a vs → Rps K cs Av H vs ds → Wk K cs Av P H true (IteT K a) (enumD ds)
  | zpL {a b : Addr} {vs us : List V} {ds es : List D} : Na K P a vs → Na K P b us → SqL K H a vs → SqL K H b us → Rps K cs Av H vs ds → Rps K cs Av H us es → Wk K cs Av P H true (Itz K a b) (zipD ds es)
  | zpT {a b : Addr} {vs us : List V} {ds es : List D} : SqT K H a vs → SqT K H b us → Rps K cs Av H vs ds → Rps K cs Av H us es → Wk K cs Av P H true (RZ.ItzT K a b) (zipD ds es)
section
variable {K : PySem.W.Frag} {cs : List Addr} {Av P : Addr → Prop} {H H' H1 H2 : Hp} {v : V} {vs : List V} {d : D} {ds : List D} {st : Sto} {J : It} {pr : Bool}
theorem Wk.p (a : Avd Av P H) (e : ExtP P H H') (w : Wk K cs Av P H pr J ds) : Wk K cs Av P H' pr J ds := by
  cases w with
  | lst n h r => exact .lst n (sqL_p h e n) (r.p a e)
  | tup h r => exact .tup (sqT_p a e h) (r.p a e)
  | rng lo n => exact .rng lo n
  | rngc lo c n => exact .rngc lo c n
  | enL n h r => exact .enL n (sqL_p h e n) (r.p a e)
  | enT h r => exact .enT (sqT_p a e h) (r.p a e)
  | zpL n n' h h' r r' => exact .zpL n n' (sqL_p h e n) (sqL_p h' e n') (r.p a e) (r'.p a e)
  | zpT h h' r r' => exact .zpT (sqT_p a e h) (sqT_p a e h') (r.p a e) (r'.p a e)
theorem enumD_len (ds : List D) : (enumD ds).length = ds.length := by simp [enumD]
theorem enumD_get {ds : List D} {i : Nat} {d : D} (h : ds[i]? = some d) : (enumD ds)[i]? = some (.tuple [.int (i : Nat), d]) := by
  simp [enumD, List.getElem?_zipIdx, h]
theorem zipD_len (xs ys : List D) : (zipD xs ys).length = min xs.length ys.length := by simp [zipD]
theorem zipD_get {xs ys : List D} {i : Nat} {x y : D} (h : xs[i]? = some x) (h' : ys[i]? = some y) : (zipD xs ys)[i]? = some (.tuple [x, y]) := by
  have e : (xs.zip ys)[i]? = some (x, y) := List.getElem?_zip_eq_some.mpr ⟨h, h'⟩
  simp [zipD, e]
theorem rangeL_get {lo : Int} {n i : Nat} (h : i < n) : (rangeL lo n)[i]? = some (.int (lo + (i : Nat))) := by
  simp [rangeL, h]
theorem rangeStep_get {lo c : Int} {n i : Nat} (h : i < n) : (rangeStep lo c n)[i]? = some (.int (lo + (i : Nat) * c)) := by
  simp [rangeStep, h]
theorem Rps.getLt (r : Rps K cs Av H vs ds) {i : Nat} (h : i < ds.length) : ∃ x d, vs[i]? = some x ∧ ds[i]? = some d ∧ Rp K cs Av H x d := by
  obtain ⟨v, h1, h2⟩ := r.get (List.getElem?_eq_getElem h)
  exact ⟨v, _, h1, List.getElem?_eq_getElem h, h2⟩
theorem Wk.go (w : Wk K cs Av P H pr J ds) {i : Nat} (h : i < ds.length) : J.go i H := by
  cases w with
  | lst n hs r => obtain ⟨x, d, h1, _⟩ := r.getLt h; exact ⟨_, x, hs, h1⟩
  | tup hs r => obtain ⟨x, d, h1, _⟩ := r.getLt h; exact ⟨_, x, hs, h1⟩
  | rng lo n => show i < n; simpa [rangeL] using h
  | rngc lo c n => show i < n; simpa [rangeStep] using h
  | enL n hs r => rw [enumD_len] at h; obtain ⟨x, d, h1, _⟩ := r.getLt h; exact ⟨_, x, hs, h1⟩
  | enT hs r => rw [enumD_len] at h; obtain ⟨x, d, h1, _⟩ := r.getLt h; exact ⟨_, x, hs, h1⟩
  | zpL n n' hs hs' r r' =>
    rw [zipD_len] at h
    obtain ⟨x, d, h1, _⟩ := r.getLt (Nat.lt_of_lt_of_le h (Nat.min_le_left _ _))
    obtain ⟨y, d', h1', _⟩ := r'.getLt (Nat.lt_of_lt_of_le h (Nat.min_le_right _ _))
    exact ⟨_, _, x, y, hs, hs', h1, h1'⟩
  | zpT hs hs' r r' =>
    rw [zipD_len] at h
    obtain ⟨x, d, h1, _⟩ := r.getLt (Nat.lt_of_lt_of_le h (Nat.min_le_left _ _))
    obtain ⟨y, d', h1', _⟩ := r'.getLt (Nat.lt_of_lt_of_le h (Nat.min_le_right _ _))
    exact ⟨_, _, x, y, hs, hs', h1, h1'⟩
theorem Wk.stop (w : Wk K cs Av P H pr J ds) : J.stop ds.length H := by
  cases w with
  | lst n hs r => exact ⟨_, hs, Nat.le_of_eq r.length⟩
  | tup hs r => exact ⟨_, hs, Nat.le_of_eq r.length⟩
  | rng lo n => show n ≤ _; simp [rangeL]
  | rngc lo c n => show n ≤ _; simp [rangeStep]
  | enL n hs r => rw [enumD_len]; exact ⟨_, hs, Nat.le_of_eq r.length⟩
  | enT hs r => rw [enumD_len]; exact ⟨_, hs, Nat.le_of_eq r.length⟩
  | zpL n n' hs hs' r r' =>
    rw [zipD_len]
    refine ⟨_, _, hs, hs', ?_⟩
    have h1 := r.length
    have h2 := r'.length
    omega
  | zpT hs hs' r r' =>
    rw [zipD_len]
    refine ⟨_, _, hs, hs', ?_⟩
    have h1 := r.length
    have h2 := r'.length
    omega
theorem Wk.yld (w : Wk K cs Av P H pr J ds) (ok : AvOk cs Av H) {i : Nat} {x : V} (h : i < ds.length) (y : J.yld i H x H') : ∃ d, ds[i]? = some d ∧ Ext [] H H' ∧ RpX K cs Av H' pr x d := by
  cases w with
  | lst n hs r =>
    obtain ⟨u, d, h1, h2, h3⟩ := r.getLt h
    obtain ⟨rfl, y⟩ := y
    have := y _ hs
    rw [h1] at this
    cases this
    exact ⟨d, h2, Ext.refl _ _, .inl h3⟩
  | tup hs r =>
    obtain ⟨u, d, h1, h2, h3⟩ := r.getLt h
    obtain ⟨rfl, y⟩ := y
    have := y _ hs
    rw [h1] at this
    cases this
    exact ⟨d, h2, Ext.refl _ _, .inl h3⟩
  | rng lo n =>
    obtain ⟨rfl, rfl⟩ := y
    exact ⟨_, rangeL_get (by simpa [rangeL] using h), Ext.refl _ _, .inl (.int _)⟩
  | rngc lo c n =>
    obtain ⟨rfl, rfl⟩ := y
    exact ⟨_, rangeStep_get (by simpa [rangeStep] using h), Ext.refl _ _, .inl (.int _)⟩
  | enL n hs r =>
    rw [enumD_len] at h
    obtain ⟨u, d, h1, h2, h3⟩ := r.getLt h
    obtain ⟨T, x, rfl, hT, rfl, y⟩ := y
    have := y _ hs
    rw [h1] at this
    cases this
    have z : Ext [] H (upd H T (.tup [.int (i : Nat), u])) := Ext.upd hT
    exact ⟨_, enumD_get h2, z, .inr ⟨rfl, _, _, _, rfl, rfl, SqT.of (upd_same ..), .cons (.int _) (.cons (h3.ext ok z.all) .nil)⟩⟩
  | enT hs r =>
    rw [enumD_len] at h
    obtain ⟨u, d, h1, h2, h3⟩ := r.getLt h
    obtain ⟨T, x, rfl, hT, rfl, y⟩ := y
    have := y _ hs
    rw [h1] at this
    cases this
    have z : Ext [] H (upd H T (.tup [.int (i : Nat), u])) := Ext.upd hT
    exact ⟨_, enumD_get h2, z, .inr ⟨rfl, _, _, _, rfl, rfl, SqT.of (upd_same ..), .cons (.int _) (.cons (h3.ext ok z.all) .nil)⟩⟩
  | zpL n n' hs hs' r r' =>
    rw [zipD_len] at h
    obtain ⟨u, d, h1, h2, h3⟩ := r.getLt (Nat.lt_of_lt_of_le h (Nat.min_le_left _ _))
    obtain ⟨u', d', h1', h2', h3'⟩ := r'.getLt (Nat.lt_of_lt_of_le h (Nat.min_le_right _ _))
    obtain ⟨T, x, x', rfl, hT, rfl, y, y'⟩ := y
    have e1 := y _ hs
    rw [h1] at e1
    cases e1
    have e2 := y' _ hs'
    rw [h1'] at e2
    cases e2
    have z : Ext [] H (upd H T (.tup [u, u'])) := Ext.upd hT
    exact ⟨_, zipD_get h2 h2', z, .inr ⟨rfl, _, _, _, rfl, rfl, SqT.of (upd_same ..), .cons (h3.ext ok z.all) (.cons (h3'.ext ok z.all) .nil)⟩⟩
  | zpT hs hs' r r' =>
    rw [zipD_len] at h
    obtain ⟨u, d, h1, h2, h3⟩ := r.getLt (Nat.lt_of_lt_of_le h (Nat.min_le_left _ _))
    obtain ⟨u', d', h1', h2', h3'⟩ := r'.getLt (Nat.lt_of_lt_of_le h (Nat.min_le_right _ _))
    obtain ⟨T, x, x', rfl, hT, rfl, y, y'⟩ := y
    have e1 := y _ hs
    rw [h1] at e1
    cases e1
    have e2 := y' _ hs'
    rw [h1'] at e2
    cases e2
    have z : Ext [] H (upd H T (.tup [u, u'])) := Ext.upd hT
    exact ⟨_, zipD_get h2 h2', z, .inr ⟨rfl, _, _, _, rfl, rfl, SqT.of (upd_same ..), .cons (h3.ext ok z.all) (.cons (h3'.ext ok z.all) .nil)⟩⟩
end
/-- the avoided addresses: the cells, or all that is owned -/
def avOf (w : Bool) (cs : List Addr) (Av : Addr → Prop) : Addr → Prop := fun a => if w = true then a ∈ cs else Av a
theorem avd_of {w : Bool} {cs : List Addr} {Av : Addr → Prop} {H : Hp} (ok : AvOk cs Av H) : Avd Av (avOf w cs Av) H := by
  unfold avOf
  cases w with
  | true => exact ⟨fun a h => ok.sub a (by simpa using h), fun a h => ok.lst a (ok.sub a (by simpa using h))⟩
  | false => exact ⟨fun a h => by simpa using h, fun a h => ok.lst a (by simpa using h)⟩
theorem Ext.av {w : Bool} {cs : List Addr} {Av : Addr → Prop} {H H' : Hp} (ok : AvOk cs Av H) (e : Ext cs H H') : ExtP (avOf w cs Av) H H' := e.p fun a h => by
  unfold avOf
  cases w with
  | true => simpa using h
  | false => simpa using ok.sub a h
/-- pairs are walked -/
def prI : CI → Bool
  | .enum _ => true
  | .zip _ _ => true
  | _ => false
def tI (K : PySem.W.Frag) (F : FT) (ci : CI) (w : Bool) : TI := fun σ H R => ∃ (cs : List Addr) (Av : Addr → Prop) (ρ : Rho) (st : Sto) (ds : List D) (st' : Sto),
  AvOk cs Av H ∧ Cl K cs Av H st ∧ En K cs Av H σ ρ ∧ evI F ci ρ st = some (ds, st') ∧ ∀ J H', Ext cs H H' → Cl K cs Av H' st' → Wk K cs Av (avOf w cs Av) H' (prI ci) J ds → R J H'
structure SI (G : Ga) (F : FT) (k : Nat) (ci : CI) : Prop where
  i : ∀ {X : Cx} {tg e : Expr} {w : Bool}, Cd G F k X → chkI G X.env.scope w ci tg e = true → PI X tg e (tI X.K F ci w)
theorem PIimp {X : Cx} {tg e : Expr} {t t' : TI} (h : PI X tg e t) (i : ∀ σ H R, t' σ H R → t σ H R) : PI X tg e t' := ⟨fun pins s σ H R I hw => h.run pins s σ H R I (i σ H R hw)⟩
section
variable {G : Ga} {F : FT} {k : Nat} {X : Cx} {e : Expr} {ce a b c : CE} {w : Bool}
theorem pi_or {X : Cx} {tg e : Expr} {t t' : TI} (h : PI X tg e t) (h' : PI X tg e t') : PI X tg e (fun σ H R => t σ H R ∨ t' σ H R) := ⟨fun pins s σ H R I hw => by
  rcases hw with hw | hw
  · exact h.run pins s σ H R I hw
  · exact h'.run pins s σ H R I hw⟩
/-- a list or a tuple, told when its value is there -/
def iSq (K : PySem.W.Frag) (tl : TE) : TI := fun σ H R => tl σ H fun x H1 => ∃ a, x = .ref a ∧ (((∃ xs, SqL K H1 a xs) ∧ R (Itl K a) H1) ∨ ((∃ xs, SqT K H1 a xs) ∧ R (Itt K a) H1))
theorem pi_sq {tg l : Expr} {tl : TE} (hl : PE X l tl) : PI X tg l (iSq X.K tl) := by
  refine ⟨fun pins s σ H R I h => ?_⟩
  refine thn (hl.run pins s σ H _ I h) fun v s1 ⟨x, H1, I1, r1, q1⟩ => ?_
  obtain ⟨a, e, ⟨⟨xs, hq⟩, q⟩ | ⟨⟨xs, hq⟩, q⟩⟩ := q1
  · subst e
    cases r1
    obtain ⟨its, rv, p, hz⟩ := I1.list hq
    refine wpAny_pyIter_list p.isList ?_
    refine ⟨s1.heap.objs.size, [s1.heap.objs.size], _, _, H1, rfl, I1.kept (t' := s1.toks) fun b o e => Heap.get?_push_of_some _ e, turn_list a _, ⟨_, Heap.get?_push_size _ rfl, rfl, rfl⟩, fun b hb => ?_, q⟩
    have e : b = s1.heap.objs.size := by simpa using hb
    subst e
    exact I1.fpOk (Nat.le_refl _) (I1.hok.fresh (Nat.le_refl _))
  · subst e
    cases r1
    obtain ⟨its, rv, p, hz⟩ := I1.tuple hq
    refine wpAny_pyIter_tuple (show s1.heap.IsTuple a its.toArray from p) ?_
    refine ⟨s1.heap.objs.size, [s1.heap.objs.size], _, _, H1, rfl, I1.kept (t' := s1.toks) fun b o e => Heap.get?_push_of_some _ e, turn_tuple a _, ⟨_, Heap.get?_push_size _ rfl, rfl, rfl⟩, fun b hb => ?_, q⟩
    have e : b = s1.heap.objs.size := by simpa using hb
    subst e
    exact I1.fpOk (Nat.le_refl _) (I1.hok.fresh (Nat.le_refl _))
/-- a value read for walking: strictly or weakly -/
theorem rd_lst {K : PySem.W.Frag} {cs : List Addr} {Av : Addr → Prop} {H : Hp} {v : V} {ds : List D} (ok : AvOk cs Av H) (h : if w = true then Rw K cs Av H v (.list ds) else Rp K cs Av H v (.list ds)) : ∃ a vs, v = .ref a ∧ Na K (avOf w cs Av) a vs ∧ SqL K H a vs ∧ Rps K cs Av H vs ds := by
  cases w with
  | true =>
    rcases h with h | ⟨a, vs, es, rfl, e, na, hs, r⟩
    · cases h with
      | lst na hs r => exact ⟨_, _, rfl, na.imp (fun n z => n (ok.sub _ (by simpa [avOf] using z))) id, hs, r⟩
    · cases e
      exact ⟨a, vs, rfl, na.imp (fun n z => n (by simpa [avOf] using z)) id, hs, r⟩
  | false =>
    cases h with
    | lst na hs r => exact ⟨_, _, rfl, na.imp (fun n z => n (by simpa [avOf] using z)) id, hs, r⟩
theorem rd_tup {K : PySem.W.Frag} {cs : List Addr} {Av : Addr → Prop} {H : Hp} {v : V} {ds : List D} (h : if w = true then Rw K cs Av H v (.tuple ds) else Rp K cs Av H v (.tuple ds)) : ∃ a vs, v = .ref a ∧ SqT K H a vs ∧ Rps K cs Av H vs ds := by
  have h : Rw K cs Av H v (.tuple ds) := by
    cases w with
    | true => exact h
    | false => exact .inl h
  obtain ⟨a, vs, e, hs, rs⟩ := h.tuple
  exact ⟨a, vs, e, hs.t, rs⟩
def tX (K : PySem.W.Frag) (F : FT) (ce : CE) (w : Bool) : TE := fun σ H Q => ∃ (cs : List Addr) (Av : Addr → Prop) (ρ : Rho) (st : Sto) (r : RV) (st' : Sto),
  AvOk cs Av H ∧ Cl K cs Av H st ∧ En K cs Av H σ ρ ∧ evE F ce ρ st = some (r, st') ∧ ∀ v H', Ext cs H H' → Cl K cs Av H' st' → (if w = true then Rw K cs Av H' v r.d else Rp K cs Av H' v r.d) → Q v H'
theorem SE.x (ha : SE G F k a) (c : Cd G F k X) (h : chkE G X.env.scope w a e = true) : PE X e (tX X.K F a w) := by
  cases w with
  | true => exact PEimp (ha.w c h) fun σ H Q ⟨cs, Av, ρ, st, r, st', ok, cl, en, he, q⟩ => ⟨cs, Av, ρ, st, r, st', ok, cl, en, he, fun v H' x c' r1 => q v H' x c' r1⟩
  | false => exact PEimp (ha.s c h) fun σ H Q ⟨cs, Av, ρ, st, r, st', ok, cl, en, he, q⟩ => ⟨cs, Av, ρ, st, r, st', ok, cl, en, he, fun v H' x c' r1 => q v H' x c' (r1.1.rp ok.there)⟩
theorem si_seq (ha : SE G F k a) : SI G F k (.seq a) := ⟨fun {X tg e w} c h => by
  have h : chkE G X.env.scope w a e = true := by simpa [chkI] using h
  refine PIimp (pi_sq (ha.x c h)) fun σ H R ⟨cs, Av, ρ, st, ds, st', ok, cl, en, he, q⟩ => ?_
  simp only [evI] at he
  split at he
  · rename_i x st1 e1
    refine ⟨cs, Av, ρ, st, x, st1, ok, cl, en, e1, fun v H1 x1 c1 r1 => ?_⟩
    have ok1 := ok.ext x1 c1
    split at he
    · rename_i ds' hd
      cases he
      rw [hd] at r1
      obtain ⟨a, vs, rfl, na, hs, rs⟩ := rd_lst ok1 r1
      exact ⟨a, rfl, .inl ⟨⟨vs, hs⟩, q _ H1 x1 c1 (.lst na hs rs)⟩⟩
    · rename_i ds' hd
      cases he
      rw [hd] at r1
      obtain ⟨a, vs, rfl, hs, rs⟩ := rd_tup r1
      exact ⟨a, rfl, .inr ⟨⟨vs, hs⟩, q _ H1 x1 c1 (.tup hs rs)⟩⟩
    · cases he
  · cases he⟩
theorem si_rng {es : CEs} (hs : SEs G F k es) : SI G F k (.rng es) := ⟨fun {X tg e w} c h => by
  cases e
  case Call g as ks p' =>
    cases g
    case Name x p =>
      match as, ks, h with
      | [], _, h => exact ff h
      | _ :: _, _ :: _, h => exact ff h
      | y :: l, [], h =>
        have h' : (x == ("range" : Str) && isGl X.env.scope x && chkAs G X.env.scope false es (y :: l)) = true := h
        simp only [Bool.and_eq_true] at h'
        obtain ⟨⟨h1, h2⟩, h3⟩ := h'
        obtain rfl := eq_of_beq h1
        have hm : X.mg "range" = none := c.g.blt _ (by simp [bltNames])
        have hpl := chkAs_plain h3
        have pa := hs.p c h3
        have ev : ∀ (ρ : Rho) (st : Sto) (ds : List D) (st' : Sto), evI F (.rng es) ρ st = some (ds, st') → ∃ as, evEs F es ρ st = some (as, st') ∧ rangeOf as = some ds ∧ as.length = (y :: l).length := fun ρ st ds st' he => by
          simp only [evI] at he
          split at he
          · rename_i as st1 e1
            split at he
            · rename_i z e2
              simp only [Option.some.injEq, Prod.mk.injEq] at he
              obtain ⟨rfl, rfl⟩ := he
              exact ⟨as, e1, e2, chkAs_len h3 e1⟩
            · cases he
          · cases he
        match l, hpl, pa, ev with
        | [], hpl, pa, ev =>
          simp only [List.all_cons, List.all_nil, Bool.and_true] at hpl
          refine PIimp (pi_range1 (isGl_of h2) hm pa (star_plain hpl [] _)) fun σ H R ⟨cs, Av, ρ, st, ds, st', ok, cl, en, he, q⟩ => ?_
          obtain ⟨as, e1, e2, hl⟩ := ev _ _ _ _ he
          refine ⟨cs, Av, ρ, st, as, st', ok, cl, en, e1, fun vs H1 x1 c1 r1 => ?_⟩
          obtain ⟨i, j, hr, rfl, hd⟩ := rangeOf_12 e2 (by simp [hl])
          rcases hd with ⟨rfl, rfl⟩ | rfl
          · cases r1 with
            | cons r t =>
              cases t
              cases r
              exact ⟨j, rfl, hr.2.2.1, hr.2.2.2.1, q _ H1 x1 c1 (by simpa using .rng 0 j.toNat)⟩
          · simp at hl
        | [z], hpl, pa, ev =>
          simp only [List.all_cons, List.all_nil, Bool.and_true, Bool.and_eq_true] at hpl
          refine PIimp (pi_range2 (isGl_of h2) hm pa (by rw [star_plain hpl.1, star_plain hpl.2]; rfl) (star_plain hpl.2 [] _)) fun σ H R ⟨cs, Av, ρ, st, ds, st', ok, cl, en, he, q⟩ => ?_
          obtain ⟨as, e1, e2, hl⟩ := ev _ _ _ _ he
          refine ⟨cs, Av, ρ, st, as, st', ok, cl, en, e1, fun vs H1 x1 c1 r1 => ?_⟩
          obtain ⟨i, j, hr, rfl, hd⟩ := rangeOf_12 e2 (by simp [hl])
          rcases hd with ⟨rfl, rfl⟩ | rfl
          · simp at hl
          · cases r1 with
            | cons r t =>
              cases t with
              | cons r' t =>
                cases t
                cases r
                cases r'
                exact ⟨i, j, rfl, ⟨hr.1, hr.2.1, hr.2.2.1, hr.2.2.2.1⟩, q _ H1 x1 c1 (.rng i _)⟩
        | [z, u], hpl, pa, ev =>
          simp only [List.all_cons, List.all_nil, Bool.and_true, Bool.and_eq_true] at hpl
          refine PIimp (pi_range3 (isGl_of h2) hm pa (star_plain hpl.1 _ _) (nostar_any (by simp [hpl.2]))) fun σ H R ⟨cs, Av, ρ, st, ds, st', ok, cl, en, he, q⟩ => ?_
          obtain ⟨as, e1, e2, hl⟩ := ev _ _ _ _ he
          refine ⟨cs, Av, ρ, st, as, st', ok, cl, en, e1, fun vs H1 x1 c1 r1 => ?_⟩
          unfold rangeOf at e2
          split at e2
          · simp at hl
          · simp at hl
          · rename_i i j cc
            split at e2
            · rename_i hc
              simp only [Bool.and_eq_true, decide_eq_true_eq] at hc
              cases e2
              cases r1 with
              | cons r t =>
                cases t with
                | cons r' t =>
                  cases t with
                  | cons r'' t =>
                    cases t
                    cases r
                    cases r'
                    cases r''
                    exact ⟨i, j, cc, _, rfl, ⟨hc.1.1.1, hc.1.1.2, hc.1.2, rangeSize_toNat i j cc⟩, q _ H1 x1 c1 (.rngc i cc _)⟩
            · cases e2
          · cases e2
        | z :: u :: t :: r, hpl, pa, ev =>
          refine ⟨fun pins s σ H R I ⟨cs, Av, ρ, st, ds, st', ok, cl, en, he, q⟩ => ?_⟩
          obtain ⟨as, e1, e2, hl⟩ := ev _ _ _ _ he
          unfold rangeOf at e2
          split at e2
          · simp at hl
          · simp at hl
          · simp at hl
          · cases e2
    all_goals exact ff h
  all_goals exact ff h⟩
theorem si_enum (ha : SE G F k a) : SI G F k (.enum a) := ⟨fun {X tg e w} c h => by
  cases tg
  case Tuple tl tk tp =>
    cases e
    case Call g as ks p' =>
      cases g
      case Name x p =>
        match as, ks, h with
        | [], _, h => exact ff h
        | _ :: _ :: _, _, h => exact ff h
        | [_], _ :: _, h => exact ff h
        | [y], [], h =>
          have h' : (x == ("enumerate" : Str) && isGl X.env.scope x && plainE y && chkE G X.env.scope w a y) = true := h
          simp only [Bool.and_eq_true] at h'
          obtain ⟨⟨⟨h1, h2⟩, h3⟩, h4⟩ := h'
          obtain rfl := eq_of_beq h1
          have hm : X.mg "enumerate" = none := c.g.blt _ (by simp [bltNames])
          refine PIimp (pi_en (isGl_of h2) hm (pa_cons (ha.x c h4) pa_nil (star_plain h3 [] _)) (star_plain h3 [] _)) fun σ H R ⟨cs, Av, ρ, st, ds, st', ok, cl, en, he, q⟩ => ?_
          simp only [evI] at he
          split at he
          · rename_i x st1 e1
            refine ⟨cs, Av, ρ, st, x, st1, ok, cl, en, e1, fun v H1 x1 c1 r1 => ?_⟩
            have ok1 := ok.ext x1 c1
            split at he
            · rename_i ds' hd
              cases he
              rw [hd] at r1
              obtain ⟨a, vs, rfl, na, hs, rs⟩ := rd_lst ok1 r1
              exact ⟨a, vs, rfl, .inl ⟨hs, q _ H1 x1 c1 (.enL na hs rs)⟩⟩
            · rename_i ds' hd
              cases he
              rw [hd] at r1
              obtain ⟨a, vs, rfl, hs, rs⟩ := rd_tup r1
              exact ⟨a, vs, rfl, .inr ⟨hs, q _ H1 x1 c1 (.enT hs rs)⟩⟩
            · cases he
          · cases he
      all_goals exact ff h
    all_goals exact ff h
  all_goals (cases e <;> exact ff h)⟩
theorem si_zip (ha : SE G F k a) (hb : SE G F k b) : SI G F k (.zip a b) := ⟨fun {X tg e w} c h => by
  cases tg
  case Tuple tl tk tp =>
    cases e
    case Call g as ks p' =>
      cases g
      case Name x p =>
        match as, ks, h with
        | [], _, h => exact ff h
        | [_], _, h => exact ff h
        | _ :: _ :: _ :: _, _, h => exact ff h
        | [_, _], _ :: _, h => exact ff h
        | [y, z], [], h =>
          have h' : (x == ("zip" : Str) && isGl X.env.scope x && plainE y && plainE z && chkE G X.env.scope w a y && chkE G X.env.scope w b z) = true := h
          simp only [Bool.and_eq_true] at h'
          obtain ⟨⟨⟨⟨⟨h1, h2⟩, h3⟩, h4⟩, h5⟩, h6⟩ := h'
          obtain rfl := eq_of_beq h1
          have hm : X.mg "zip" = none := c.g.blt _ (by simp [bltNames])
          refine PIimp (RZ.pi_zipA (isGl_of h2) hm (pa_cons (ha.x c h5) (pa_cons (hb.x c h6) pa_nil (star_plain h4 [] _)) (star_plain h3 [z] _)) (star_plain h3 [z] _) (nostar_any (by simp [h4]))) fun σ H R ⟨cs, Av, ρ, st, ds, st', ok, cl, en, he, q⟩ => ?_
          simp only [evI] at he
          split at he
          · rename_i x st1 e1
            split at he
            · rename_i y st2 e2
              refine ⟨cs, Av, ρ, st, x, st1, ok, cl, en, e1, fun v H1 x1 c1 r1 => ?_⟩
              have ok1 := ok.ext x1 c1
              refine ⟨cs, Av, ρ, st1, y, st2, ok1, c1, en.ext ok x1, e2, fun u H2 x2 c2 r2 => ?_⟩
              have ok2 := ok1.ext x2 c2
              have r1' : if w = true then Rw X.K cs Av H2 v x.d else Rp X.K cs Av H2 v x.d := by
                cases w with
                | true => exact Rw.ext ok1 x2 r1
                | false => exact Rp.ext ok1 x2 r1
              split at he
              · rename_i xs ys hx hy
                cases he
                rw [hx] at r1'
                rw [hy] at r2
                obtain ⟨a, vs, rfl, hs, rs⟩ := rd_tup r1'
                obtain ⟨b, us, rfl, hs', rs'⟩ := rd_tup r2
                exact ⟨a, b, vs, us, rfl, .inr ⟨hs, hs', q _ H2 (x1.trans x2) c2 (.zpT hs hs' rs rs')⟩⟩
              · rename_i xs ys hx hy
                cases he
                rw [hx] at r1'
                rw [hy] at r2
                obtain ⟨a, vs, rfl, na, hs, rs⟩ := rd_lst ok2 r1'
                obtain ⟨b, us, rfl, nb, hs', rs'⟩ := rd_lst ok2 r2
                exact ⟨a, b, vs, us, rfl, .inl ⟨hs, hs', q _ H2 (x1.trans x2) c2 (.zpL na nb hs hs' rs rs')⟩⟩
              · cases he
            · cases he
          · cases he
      all_goals exact ff h
    all_goals exact ff h
  all_goals (cases e <;> exact ff h)⟩
end
end Ev

set_option Elab.async false
set_option linter.all false
set_option maxRecDepth 100000
set_option maxHeartbeats 4000000
/-! Comprehensions, and all the expressions by induction. -/
namespace Ev
variable [Zc]
open PySem PySem.Spec PyProof.Rows L2

/-! ### targets -/
section
variable {K : PySem.W.Frag} {cs : List Addr} {Av : Addr → Prop} {H : Hp} {v : V} {vs : List V} {d : D} {ds : List D} {σ σ' : L2.St} {ρ ρ' : Rho}
theorem En.setV (en : En K cs Av H σ ρ) (i : Nat) (r : Rp K cs Av H v d) : En K cs Av H (σ.set i (some v)) (ρ.set i (some (.v d))) := by
  refine ⟨by simp [en.len], fun j => ?_⟩
  by_cases h : i = j
  · subst h
    by_cases hl : i < ρ.length
    · have hl' : i < σ.length := by rw [en.len]; exact hl
      rw [List.getElem?_set_self hl, List.getElem?_set_self hl']
      exact ⟨v, rfl, r⟩
    · rw [List.getElem?_eq_none (l := ρ.set i _) (by simpa using hl)]
      trivial
  · rw [List.getElem?_set_ne h, List.getElem?_set_ne h]
    exact en.at_ j
theorem En.wipe (en : En K cs Av H σ ρ) : ∀ own : List Nat, En K cs Av H (wipe σ own) (wipeE ρ own)
  | [] => en
  | i :: r => by
    have ih := En.wipe en r
    unfold L2.wipe wipeE
    refine ⟨by simp [ih.len], fun j => ?_⟩
    by_cases h : i = j
    · subst h
      by_cases hl : i < (wipeE ρ r).length
      · rw [List.getElem?_set_self hl]; trivial
      · rw [List.getElem?_eq_none (l := (wipeE ρ r).set i _) (by simpa using hl)]; trivial
    · rw [List.getElem?_set_ne h, List.getElem?_set_ne h]
      exact ih.at_ j
/-- two frames that differ only at these slots -/
structure Apart (is : List Nat) (σ σ' : L2.St) : Prop where
  len : σ'.length = σ.length
  at_ : ∀ j, j ∉ is → σ'[j]? = σ[j]?
theorem Apart.refl {is : List Nat} : Apart is σ σ := ⟨rfl, fun _ _ => rfl⟩
theorem Apart.trans {is js : List Nat} {σ2 : L2.St} (a : Apart is σ σ') (b : Apart js σ' σ2) : Apart (is ++ js) σ σ2 :=
  ⟨b.len.trans a.len, fun j h => by
    simp only [List.mem_append, not_or] at h
    exact (b.at_ j h.2).trans (a.at_ j h.1)⟩
theorem Apart.set (i : Nat) (o : Option V) : Apart [i] σ (σ.set i o) := ⟨by simp, fun j h => by rw [List.getElem?_set_ne (by simpa using fun e => h (by simp [e]))]⟩
theorem wipe_get {own : List Nat} {j : Nat} : ∀ {σ : L2.St}, (wipe σ own)[j]? = if j ∈ own ∧ j < σ.length then some none else σ[j]? := by
  induction own with
  | nil => intro σ; simp [L2.wipe]
  | cons i r ih =>
    intro σ
    unfold L2.wipe
    by_cases h : i = j
    · subst h
      by_cases hl : i < σ.length
      · rw [List.getElem?_set_self (by rw [wipe_length]; exact hl)]
        simp [hl]
      · rw [List.getElem?_eq_none (by simp [wipe_length]; omega)]
        simp [hl]
    · rw [List.getElem?_set_ne h, ih]
      have : j ∈ i :: r ↔ j ∈ r := by simp [show ¬ j = i from fun e => h e.symm]
      simp only [this]
theorem Apart.wipe {is own : List Nat} (a : Apart is (L2.wipe σ own) σ') (h : ∀ i ∈ is, i ∈ own) : L2.wipe σ' own = L2.wipe σ own := by
  apply List.ext_getElem?
  intro j
  rw [wipe_get, wipe_get]
  have hl : σ'.length = σ.length := by rw [a.len, wipe_length]
  rw [hl]
  by_cases hj : j ∈ own ∧ j < σ.length
  · rw [if_pos hj, if_pos hj]
  · rw [if_neg hj, if_neg hj]
    by_cases hm : j ∈ is
    · have hlt : ¬ j < σ.length := fun z => hj ⟨h j hm, z⟩
      rw [List.getElem?_eq_none (by omega), List.getElem?_eq_none (by omega)]
    · rw [a.at_ j hm, wipe_get, if_neg hj]
end
def isTp : Tg → Bool
  | .tp _ => true
  | .nm _ => false
def tG (K : PySem.W.Frag) (tg : Tg) : TG := fun v σ H Q => ∃ (cs : List Addr) (Av : Addr → Prop) (ρ : Rho) (d : D) (ρ' : Rho),
  En K cs Av H σ ρ ∧ RpX K cs Av H (isTp tg) v d ∧ bindTg tg d ρ = some ρ' ∧ ∀ σ', Apart (slotsOf tg) σ σ' → En K cs Av H σ' ρ' → Q σ' H
def tGs (K : PySem.W.Frag) (tg : Tgs) : TGs := fun vs σ H Q => ∃ (cs : List Addr) (Av : Addr → Prop) (ρ : Rho) (ds : List D) (ρ' : Rho),
  En K cs Av H σ ρ ∧ Rps K cs Av H vs ds ∧ bindTgs tg ds ρ = some ρ' ∧ ∀ σ', Apart (slotsOfs tg) σ σ' → En K cs Av H σ' ρ' → Q σ' H
theorem assignEach_cons {e : Expr} (h : noSt e = true) (es : List Expr) (env : Env) : assignEach (e :: es) env = (false, assign e env) :: assignEach es env := by
  cases e <;> first | rfl | exact ff h
theorem PGimp {X : Cx} {e : Expr} {t t' : TG} (h : PG X e t) (i : ∀ v σ H Q, t' v σ H Q → t v σ H Q) : PG X e t' := ⟨fun pins s σ H v u Q I r hw => h.run pins s σ H v u Q I r (i v σ H Q hw)⟩
theorem PGsimp {X : Cx} {e : List Expr} {t t' : TGs} (h : PGs X e t) (i : ∀ v σ H Q, t' v σ H Q → t v σ H Q) : PGs X e t' := ⟨fun pins s σ H v u Q I r hw => h.run pins s σ H v u Q I r (i v σ H Q hw)⟩
section
variable {G : Ga} {F : FT} {k : Nat} {X : Cx} {fp : Str → Bool}
mutual
theorem tg_ok (c : Cd G F k X) (hfn : ∀ x, fp x = true → X.fn x = true) : ∀ {tg : Tg} {e : Expr}, chkT G fp X.env.scope tg e = true → PG X e (tG X.K tg)
  | .nm i, e, h => by
    cases e
    case Name x p =>
      have h' : (nmIs G.N i x && (match X.env.scope.names.lookup x with | some .local => true | some .cell => fp x | _ => false)) = true := h
      simp only [Bool.and_eq_true] at h'
      obtain ⟨h1, h2⟩ := h'
      have hl : Loc X.env.scope x ∧ (X.fn x = true ∨ X.env.scope.names.lookup x = some .local) := by
        split at h2
        · rename_i e; exact ⟨.inl e, .inr e⟩
        · rename_i e; exact ⟨.inr e, .inl (hfn x h2)⟩
        · cases h2
      refine PGimp (pg_name (by rw [c.N]; exact c.nd) (by rw [c.N]; exact nmIs_of h1) hl.1 hl.2) fun v σ H Q ⟨cs, Av, ρ, d, ρ', en, r, hb, q⟩ => ?_
      simp only [bindTg] at hb
      cases hb
      exact q _ (Apart.set i _) (en.setV i (RpX.f r))
    all_goals exact ff h
  | .tp ts, e, h => by
    cases e
    case Tuple es kk p =>
      have h' : chkTs G fp X.env.scope ts es = true := h
      obtain ⟨h1, h2, h3⟩ := tgs_ok c hfn h'
      refine PGimp (pg_tup c.calm h1 h2 h3) fun v σ H Q ⟨cs, Av, ρ, d, ρ', en, r, hb, q⟩ => ?_
      cases d with
      | tuple ds =>
        simp only [bindTg] at hb
        obtain ⟨a, vs, rfl, hs, rs⟩ := r.tuple
        refine ⟨_, _, rfl, hs, ?_, cs, Av, ρ, ds, ρ', en, rs, hb, q⟩
        rw [rs.length]
        exact (tgs_len h' hb)
      | _ => simp [bindTg] at hb
    all_goals exact ff h
theorem tgs_ok (c : Cd G F k X) (hfn : ∀ x, fp x = true → X.fn x = true) : ∀ {tg : Tgs} {es : List Expr}, chkTs G fp X.env.scope tg es = true → PGs X es (tGs X.K tg) ∧ (assignEach es X.env).length = es.length ∧ (assignEach es X.env).findIdx? (·.1) = none
  | .nil, [], _ => by
    refine ⟨PGsimp pgs_nil fun vs σ H Q ⟨cs, Av, ρ, ds, ρ', en, r, hb, q⟩ => ?_, rfl, rfl⟩
    cases ds with
    | nil =>
      simp only [bindTgs] at hb
      cases hb
      cases r
      exact ⟨rfl, q σ Apart.refl en⟩
    | cons => simp [bindTgs] at hb
  | .nil, _ :: _, h => ff h
  | .cons _ _, [], h => ff h
  | .cons t r, e :: es, h => by
    have h' : (noSt e && (chkT G fp X.env.scope t e && chkTs G fp X.env.scope r es)) = true := h
    simp only [Bool.and_eq_true] at h'
    obtain ⟨h1, h2, h3⟩ := h'
    have ae := assignEach_cons h1 es X.env
    obtain ⟨g1, g2, g3⟩ := tgs_ok c hfn h3
    refine ⟨PGsimp (pgs_cons (tg_ok c hfn h2) g1 (by rw [ae]; rfl)) fun vs σ H Q ⟨cs, Av, ρ, ds, ρ', en, rr, hb, q⟩ => ?_, by rw [ae]; simp [g2], by rw [ae]; simp [List.findIdx?_cons, g3]⟩
    cases ds with
    | nil => simp [bindTgs] at hb
    | cons d ds =>
      simp only [bindTgs] at hb
      split at hb
      · rename_i ρ1 hb1
        cases rr with
        | cons r1 rs =>
          refine ⟨_, _, rfl, cs, Av, ρ, d, ρ1, en, .inl r1, hb1, fun σ1 a1 en1 => ?_⟩
          exact ⟨cs, Av, ρ1, ds, ρ', en1, rs, hb, fun σ2 a2 en2 => q σ2 (a1.trans a2) en2⟩
      · cases hb
theorem tgs_len {sc : Scope} : ∀ {ts : Tgs} {es : List Expr} {ds : List D} {ρ ρ' : Rho}, chkTs G fp sc ts es = true → bindTgs ts ds ρ = some ρ' → ds.length = es.length
  | .nil, [], ds, ρ, ρ', _, hb => by
    cases ds with
    | nil => rfl
    | cons => simp [bindTgs] at hb
  | .nil, _ :: _, _, _, _, h, _ => ff h
  | .cons _ _, [], _, _, _, h, _ => ff h
  | .cons t r, e :: es, ds, ρ, ρ', h, hb => by
    have h' : (noSt e && (chkT G fp sc t e && chkTs G fp sc r es)) = true := h
    simp only [Bool.and_eq_true] at h'
    cases ds with
    | nil => simp [bindTgs] at hb
    | cons d ds =>
      simp only [bindTgs] at hb
      split at hb
      · simp [tgs_len h'.2.2 hb]
      · cases hb
end
end

/-! ### tests -/
def tF (K : PySem.W.Frag) (F : FT) (fs : CEs) : TT := fun σ H Q => ∃ (cs : List Addr) (Av : Addr → Prop) (ρ : Rho) (st : Sto) (b : Bool) (st' : Sto),
  AvOk cs Av H ∧ Cl K cs Av H st ∧ En K cs Av H σ ρ ∧ evIfs F fs ρ st = some (b, st') ∧ ∀ H', Ext cs H H' → Cl K cs Av H' st' → Q b H'
structure SFs (G : Ga) (F : FT) (k : Nat) (ces : CEs) : Prop where
  f : ∀ {X : Cx} {l : List Expr}, Cd G F k X → chkFs G X.env.scope ces l = true → PTs X l (tF X.K F ces)
theorem tests_false (env : Env) : ∀ l : List Expr, (forIn l false fun c r => if r = true then do let ok ← isTrue c env (eval c env); pure (ForInStep.yield ok) else pure (ForInStep.yield r) : Sem Bool) = pure false
  | [] => rfl
  | c :: r => by
    rw [List.forIn_cons]
    simp only [Bool.false_eq_true, if_false, pure_bind]
    exact tests_false env r
section
variable {G : Ga} {F : FT} {k : Nat} {X : Cx} {a b c : CE}
theorem pts_cons {c : Expr} {l : List Expr} {t u : TT} (h : PT X c t) (hr : PTs X l u) : PTs X (c :: l) (fun σ H Q => t σ H fun b H1 => if b = true then u σ H1 Q else Q false H1) := by
  refine ⟨fun pins s σ H Q I hw => ?_⟩
  rw [List.forIn_cons]
  simp only [if_true]
  refine wpAny_bind (wpAny_bind (thn (h.run pins s σ H _ I hw) fun b s1 ⟨H1, I1, q1⟩ => wpAny_pure ?_))
  cases b with
  | true => exact hr.run pins s1 σ H1 Q I1 q1
  | false =>
    show wpAny _ _ (forIn l false _) _ _ _
    rw [tests_false]
    exact wpAny_pure ⟨H1, I1, q1⟩
theorem PTsimp {X : Cx} {e : List Expr} {t t' : TT} (h : PTs X e t) (i : ∀ σ H Q, t' σ H Q → t σ H Q) : PTs X e t' := ⟨fun pins s σ H Q I hw => h.run pins s σ H Q I (i σ H Q hw)⟩
theorem sfs_nil : SFs G F k .nil := ⟨fun {X l} c h => by
  cases l with
  | cons => exact ff h
  | nil =>
    refine PTsimp pts_nil fun σ H Q ⟨cs, Av, ρ, st, b, st', ok, cl, en, he, q⟩ => ?_
    simp only [evIfs] at he
    cases he
    exact q H (Ext.refl _ _) cl⟩
theorem sfs_cons {r : CEs} {s : Bool} (ha : SE G F k a) (hr : SFs G F k r) : SFs G F k (.cons s a r) := ⟨fun {X l} c h => by
  cases l with
  | nil => cases s <;> exact ff h
  | cons e es =>
    cases s with
    | true => exact ff h
    | false =>
      have h' : (chkE G X.env.scope false a e && chkFs G X.env.scope r es) = true := h
      simp only [Bool.and_eq_true] at h'
      refine PTsimp (pts_cons (ha.t c h'.1) (hr.f c h'.2)) fun σ H Q ⟨cs, Av, ρ, st, b, st', ok, cl, en, he, q⟩ => ?_
      simp only [evIfs] at he
      split at he
      · rename_i x st1 e1
        split at he
        · rename_i e2
          refine ⟨cs, Av, ρ, st, x, st1, true, ok, cl, en, e1, e2, fun H1 x1 c1 => ?_⟩
          show (if true = true then _ else _)
          rw [if_pos rfl]
          exact ⟨cs, Av, ρ, st1, b, st', ok.ext x1 c1, c1, en.ext ok x1, he, fun H2 x2 c2 => q H2 (x1.trans x2) c2⟩
        · rename_i e2
          cases he
          refine ⟨cs, Av, ρ, st, x, _, false, ok, cl, en, e1, e2, fun H1 x1 c1 => ?_⟩
          show (if false = true then _ else _)
          rw [if_neg (by decide)]
          exact q H1 x1 c1
        · cases he
      · cases he⟩

/-! ### comprehensions -/
theorem foldOk {e : Expr} (h : itOk e = true) (env : Env) (x : Value) : foldedSetIterable e env x = pure x := by
  cases e <;> first | rfl | exact ff h
theorem Cd.blk (c : Cd G F k X) (s : Shared) (H : Hp) (scope : Scope) (C : Addr) (cl : List (Str × Addr)) (fp : List Addr) : Cd G.nl F k (X.blk s H scope (compEnvC scope cl C X.env) fp) :=
  ⟨c.N, c.calm, c.gd, c.rm, c.nd, c.gx.nl, fun h => absurd rfl h⟩
theorem tgIn_of {own : List Nat} {tg : Tg} (h : tgIn own tg = true) : ∀ i ∈ slotsOf tg, i ∈ own := fun i hi => by
  unfold tgIn at h
  rw [List.all_eq_true] at h
  simpa using h i hi
theorem own_map (N : List Str) (own : List Nat) : (chkOwn N own).map (·.2) = own := by
  unfold chkOwn
  rw [List.map_map]
  exact List.map_id' own
theorem mapM_cons {f : D → Sto → Option (List D × Sto)} {x : D} {r zs : List D} {st st' : Sto} (h : mapM f (x :: r) st = some (zs, st')) : ∃ ys us st1, f x st = some (ys, st1) ∧ mapM f r st1 = some (us, st') ∧ zs = ys ++ us := by
  simp only [mapM] at h
  split at h
  · rename_i ys st1 e1
    split at h
    · rename_i us st2 e2
      cases h
      exact ⟨ys, us, st1, e1, e2, rfl⟩
    · cases h
  · cases h
theorem drop_at {ds : List D} {i : Nat} {d : D} (h : ds[i]? = some d) : ds.drop i = d :: ds.drop (i + 1) := by
  obtain ⟨hl, e⟩ := List.getElem?_eq_some_iff.mp h
  rw [List.drop_eq_getElem_cons hl, e]
theorem inv_comp {sc : Scope} {e : Expr} {w : Bool} {own tg it ifs elt} (h : chkE G sc w (.comp own tg it ifs elt) e = true) : ∃ x t i fs scope p, e = .ListComp x [⟨t, i, fs, 0⟩] scope p ∧ blkC G.N sc scope (chkOwn G.N own) = true ∧ chkI G sc true it t i = true ∧ tgIn own tg = true ∧ chkT G.nl (fun x => scope.names.lookup x == some .cell) (relS scope sc) tg t = true ∧ chkFs G.nl (relS scope sc) ifs fs = true ∧ (chkE G.nl (relS scope sc) false elt x || (clC own G.lam elt && chkE G (relS scope sc) false elt x)) = true ∧ itOk i = true := by
  cases e
  case ListComp x gs scope p =>
    rcases gs with _ | ⟨⟨t, i, fs, n⟩, _ | ⟨g2, r⟩⟩
    · exact ff h
    · by_cases hn : n = 0
      case neg => exfalso; simp [chkE, hn] at h
      case pos =>
        subst hn
        have h' : (blkC G.N sc scope (chkOwn G.N own) && chkI G sc true it t i && tgIn own tg && chkT G.nl (fun x => scope.names.lookup x == some .cell) (relS scope sc) tg t && chkFs G.nl (relS scope sc) ifs fs && (chkE G.nl (relS scope sc) false elt x || (clC own G.lam elt && chkE G (relS scope sc) false elt x)) && itOk i) = true := h
        rw [Bool.and_eq_true, Bool.and_eq_true, Bool.and_eq_true, Bool.and_eq_true, Bool.and_eq_true, Bool.and_eq_true] at h'
        obtain ⟨⟨⟨⟨⟨⟨h1, h2⟩, h3⟩, h4⟩, h5⟩, h6⟩, h7⟩ := h'
        exact ⟨x, t, i, fs, scope, p, rfl, h1, h2, h3, h4, h5, h6, h7⟩
    · exfalso; simp [chkE] at h
  all_goals exact ff h
theorem inv_comp2 {sc : Scope} {e : Expr} {w : Bool} {own tg it ifs tg1 it1 ifs1 elt} (h : chkE G sc w (.comp2 own tg it ifs tg1 it1 ifs1 elt) e = true) : ∃ x t i fs t1 i1 fs1 scope p, e = .ListComp x [⟨t, i, fs, 0⟩, ⟨t1, i1, fs1, 0⟩] scope p ∧ blkC G.N sc scope (chkOwn G.N own) = true ∧ chkI G sc true it t i = true ∧ tgIn own tg = true ∧ chkT G.nl (fun x => scope.names.lookup x == some .cell) (relS scope sc) tg t = true ∧ chkFs G.nl (relS scope sc) ifs fs = true ∧
    chkI G.nl (relS scope sc) false it1 t1 i1 = true ∧ tgIn own tg1 = true ∧ chkT G.nl (fun x => scope.names.lookup x == some .cell) (relS scope sc) tg1 t1 = true ∧ chkFs G.nl (relS scope sc) ifs1 fs1 = true ∧ chkE G.nl (relS scope sc) false elt x = true ∧ itOk i = true ∧ itOk i1 = true := by
  cases e
  case ListComp x gs scope p =>
    rcases gs with _ | ⟨⟨t, i, fs, n⟩, _ | ⟨⟨t1, i1, fs1, n1⟩, _ | ⟨g2, r⟩⟩⟩
    · exact ff h
    · exfalso; simp [chkE] at h
    · by_cases hn : n = 0
      case neg => exfalso; simp [chkE, hn] at h
      case pos =>
        subst hn
        by_cases hn : n1 = 0
        case neg => exfalso; simp [chkE, hn] at h
        case pos =>
          subst hn
          have h' : (blkC G.N sc scope (chkOwn G.N own) && chkI G sc true it t i && tgIn own tg && chkT G.nl (fun x => scope.names.lookup x == some .cell) (relS scope sc) tg t && chkFs G.nl (relS scope sc) ifs fs && chkI G.nl (relS scope sc) false it1 t1 i1 && tgIn own tg1 && chkT G.nl (fun x => scope.names.lookup x == some .cell) (relS scope sc) tg1 t1 && chkFs G.nl (relS scope sc) ifs1 fs1 && chkE G.nl (relS scope sc) false elt x && itOk i && itOk i1) = true := h
          simp only [Bool.and_eq_true] at h'
          obtain ⟨⟨⟨⟨⟨⟨⟨⟨⟨⟨⟨h1, h2⟩, h3⟩, h4⟩, h5⟩, h6⟩, h7⟩, h8⟩, h9⟩, h10⟩, h11⟩, h12⟩ := h'
          exact ⟨x, t, i, fs, t1, i1, fs1, scope, p, rfl, h1, h2, h3, h4, h5, h6, h7, h8, h9, h10, h11, h12⟩
    · exfalso; simp [chkE] at h
  all_goals exact ff h

/-! ### the walk of a clause -/
/-- where a comprehension stands: its list at L -/
structure Now (K : PySem.W.Frag) (cs : List Addr) (Av : Addr → Prop) (E : Hp → Prop) (L : Addr) (H : Hp) (st : Sto) (as : List D) : Prop where
  ok : AvOk cs Av H
  ex : E H
  cl : Cl K cs Av H st
  acc : ∃ acc, H L = some (.lst acc) ∧ Rps K cs Av H acc as
structure EOk (cs : List Addr) (L : Addr) (E : Hp → Prop) : Prop where
  ext : ∀ H H', E H → Ext cs H H' → E H'
  put : ∀ H xs ys, H L = some (.lst xs) → E H → E (upd H L (.lst ys))
theorem EOk.base {cs : List Addr} {L : Addr} {H : Hp} (h : H L = none) : EOk cs L (Ext cs H) := ⟨fun _ _ a b => a.trans b, fun H1 xs ys hL e => ⟨fun b x q n t => by
  rw [upd_ne (ne_of_none q h)]; exact e.k b x q n t, fun b ps q => by
  obtain ⟨p1, z⟩ := e.t b ps q
  exact tbl_put hL z, fun t => tabs_put (e.tab t) hL⟩⟩
theorem lc_loop {K : PySem.W.Frag} {pr : Bool} {J : It} {ds : List D} {f : D → Sto → Option (List D × Sto)} {cs : List Addr} {Av : Addr → Prop} {E : Hp → Prop} {H0 : Hp} {L : Addr} {st0 stE : Sto} {as0 zs0 : List D} (BODY : V → Hp → (Hp → Prop) → Prop) (Fin : Hp → Prop)
    (wk : ∀ Hn, E Hn → ∃ P, Wk K cs Av P Hn pr J ds) (hm : mapM f ds st0 = some (zs0, stE)) (hl : (as0 ++ zs0).length ≤ maxLen) (s0 : Now K cs Av E L H0 st0 as0)
    (body : ∀ d st ys st' as Hn x H', f d st = some (ys, st') → (as ++ ys).length ≤ maxLen → Now K cs Av E L Hn st as → Ext [] Hn H' → RpX K cs Av H' pr x d → BODY x H' (fun Hn' => Now K cs Av E L Hn' st' (as ++ ys)))
    (fin : ∀ Hn, Now K cs Av E L Hn stE (as0 ++ zs0) → Fin Hn) :
    ∃ W : Nat → Nat → Hp → Prop, (∃ m, W 0 m H0) ∧ ∀ i m H, W i m H → (J.stop i H ∧ Fin H) ∨ (J.go i H ∧ ∃ Nx : Hp → Prop, (∀ H', Nx H' → ∃ m', m' < m ∧ W (i + 1) m' H') ∧ ∀ x H', J.yld i H x H' → BODY x H' Nx) := by
  refine ⟨fun i m Hn => i ≤ ds.length ∧ m = ds.length - i ∧ ∃ as st zs, Now K cs Av E L Hn st as ∧ mapM f (ds.drop i) st = some (zs, stE) ∧ as0 ++ zs0 = as ++ zs, ⟨ds.length, Nat.zero_le _, rfl, as0, st0, zs0, s0, hm, rfl⟩, ?_⟩
  rintro i m Hn ⟨hi, rfl, as, st, zs, nw, hmi, hz⟩
  obtain ⟨P, w⟩ := wk Hn nw.ex
  by_cases hlt : i < ds.length
  · have hd : ds[i]? = some ds[i] := List.getElem?_eq_getElem hlt
    rw [drop_at hd] at hmi
    obtain ⟨ys, us, st1, e1, e2, rfl⟩ := mapM_cons hmi
    refine .inr ⟨w.go hlt, fun Hn' => Now K cs Av E L Hn' st1 (as ++ ys), fun H' n' => ⟨ds.length - (i + 1), by omega, by omega, rfl, as ++ ys, st1, us, n', e2, by rw [hz, List.append_assoc]⟩, fun x H' y => ?_⟩
    obtain ⟨d, hd', ex, rp⟩ := w.yld nw.ok hlt y
    rw [hd] at hd'
    cases hd'
    refine body _ st ys st1 as Hn x H' e1 ?_ nw ex rp
    rw [hz] at hl
    simp only [List.length_append] at hl ⊢
    omega
  · have hi' : i = ds.length := by omega
    subst hi'
    rw [List.drop_length] at hmi
    cases hmi
    refine .inl ⟨w.stop, fin Hn ?_⟩
    rw [hz, List.append_nil]
    exact nw
theorem Rps.av' {K : PySem.W.Frag} {cs : List Addr} {Av Av' : Addr → Prop} {H : Hp} (h : ∀ a, Av' a → Av a ∨ H a = none) {vs : List V} {ds : List D} (r : Rps K cs Av H vs ds) : Rps K cs Av' H vs ds := r.av h
theorem SlotOk.av {K : PySem.W.Frag} {cs : List Addr} {Av Av' : Addr → Prop} {H : Hp} (h : ∀ a, Av' a → Av a ∨ H a = none) (h' : ∀ a, Av a → Av' a) {x : Option (Option V)} {y : Option (Option RV)} (s : SlotOk K cs Av H x y) : SlotOk K cs Av' H x y := by
  match y, s with
  | none, _ => trivial
  | some none, _ => trivial
  | some (some (.v d)), ⟨x, h1, h2⟩ => exact ⟨x, h1, h2.av h⟩
  | some (some (.o ds)), ⟨a, vs, h1, h2, h3, h4, h5⟩ => exact ⟨a, vs, h1, h' a h2, h3, h4, h5.av h⟩
theorem En.av {K : PySem.W.Frag} {cs : List Addr} {Av Av' : Addr → Prop} {H : Hp} {σ : L2.St} {ρ : Rho} (en : En K cs Av H σ ρ) (h : ∀ a, Av' a → Av a ∨ H a = none) (h' : ∀ a, Av a → Av' a) : En K cs Av' H σ ρ := ⟨en.len, fun i => (en.at_ i).av h h'⟩
theorem Cl.av {K : PySem.W.Frag} {cs : List Addr} {Av Av' : Addr → Prop} {H : Hp} {st : Sto} (cl : Cl K cs Av H st) (h : ∀ a, Av' a → Av a ∨ H a = none) : Cl K cs Av' H st := ⟨cl.len, cl.nd, fun n a ds h1 h2 => by
  obtain ⟨vs, e, r⟩ := cl.at_ n a ds h1 h2
  exact ⟨vs, e, r.av h⟩⟩
theorem Wk.av {K : PySem.W.Frag} {cs : List Addr} {Av Av' P : Addr → Prop} {H : Hp} {pr : Bool} {J : It} {ds : List D} (w : Wk K cs Av P H pr J ds) (h : ∀ a, Av' a → Av a ∨ H a = none) : Wk K cs Av' P H pr J ds := by
  cases w with
  | lst n hs r => exact .lst n hs (r.av h)
  | tup hs r => exact .tup hs (r.av h)
  | rng lo n => exact .rng lo n
  | rngc lo c n => exact .rngc lo c n
  | enL n hs r => exact .enL n hs (r.av h)
  | enT hs r => exact .enT hs (r.av h)
  | zpL n n' hs hs' r r' => exact .zpL n n' hs hs' (r.av h) (r'.av h)
  | zpT hs hs' r r' => exact .zpT hs hs' (r.av h) (r'.av h)
theorem SlotOk.p {K : PySem.W.Frag} {cs : List Addr} {Av P : Addr → Prop} {H H' : Hp} (a : Avd Av P H) (e : ExtP P H H') {x : Option (Option V)} {y : Option (Option RV)} (hp : ∀ b, P b → b ∈ cs) (s : SlotOk K cs Av H x y) : SlotOk K cs Av H' x y := by
  match y, s with
  | none, _ => trivial
  | some none, _ => trivial
  | some (some (.v d)), ⟨x, h1, h2⟩ => exact ⟨x, h1, h2.p a e⟩
  | some (some (.o ds)), ⟨b, vs, h1, h2, h3, h4, h5⟩ => exact ⟨b, vs, h1, h2, h3, e b _ h4 (fun z => h3 (hp b z)) (fun _ z => nomatch z), h5.p a e⟩
theorem avOf_t {cs : List Addr} {Av Av' : Addr → Prop} : avOf true cs Av = avOf true cs Av' := by unfold avOf; simp
/-- the start of a comprehension: its list is one more that is owned -/
theorem now_start {K : PySem.W.Frag} {cs : List Addr} {Av : Addr → Prop} {H : Hp} {st : Sto} {σ : L2.St} {ρ : Rho} {L : Addr} {pr : Bool} {J : It} {ds : List D} (ok : AvOk cs Av H) (cl : Cl K cs Av H st) (en : En K cs Av H σ ρ) (wk : Wk K cs Av (avOf true cs Av) H pr J ds) (hL : H L = none) :
    ∃ Av' : Addr → Prop, Av' L ∧ L ∉ cs ∧ (∀ a, Av a → Av' a) ∧ Now K cs Av' (Ext cs H) L (upd H L (.lst [])) st [] ∧ ∀ Hn, Ext cs H Hn → En K cs Av' Hn σ ρ ∧ Wk K cs Av' (avOf true cs Av') Hn pr J ds := by
  have nL : L ∉ cs := fun z => by
    obtain ⟨xs, q⟩ := ok.lst L (ok.sub L z)
    rw [hL] at q; cases q
  let Av' : Addr → Prop := fun a => Av a ∨ a = L
  have hav : ∀ a, Av' a → Av a ∨ H a = none := fun a h => h.imp id fun e => by rw [e]; exact hL
  have ap : Avd Av' (avOf true cs Av) H := ⟨fun a h => .inl (ok.sub a (by simpa [avOf] using h)), fun a h => ok.lst a (ok.sub a (by simpa [avOf] using h))⟩
  have z : Ext [] H (upd H L (.lst [])) := Ext.upd hL
  have zc : Ext cs H (upd H L (.lst [])) := z.all
  have toP : ∀ {Hn}, Ext cs H Hn → ExtP (avOf true cs Av) H Hn := fun e => e.p fun a h => by simpa [avOf] using h
  have cl' := cl.av hav
  refine ⟨Av', .inr rfl, nL, fun a h => .inl h, ⟨⟨fun a h => .inl (ok.sub a h), fun a h => ?_, zc.tab ok.tab⟩, zc, ⟨cl'.len, cl'.nd, fun n a ds h1 h2 => ?_⟩, [], upd_same .., .nil⟩, fun Hn ex => ⟨⟨en.len, fun i => ((en.at_ i).av hav (fun a h => .inl h)).p ap (toP ex) (fun b h => by simpa [avOf] using h)⟩, ?_⟩⟩
  · rcases h with h | rfl
    · obtain ⟨xs, q⟩ := ok.lst a h
      exact ⟨xs, z.k a _ q (by simp) (fun _ z => nomatch z)⟩
    · exact ⟨[], upd_same ..⟩
  · obtain ⟨vs, e, r⟩ := cl'.at_ n a ds h1 h2
    exact ⟨vs, z.k a _ e (by simp) (fun _ z => nomatch z), r.p ap (toP zc)⟩
  · rw [avOf_t (Av := Av') (Av' := Av)]
    exact (wk.av hav).p ap (toP ex)
/-- another heap in which the cells stand so -/
theorem Now.next {K : PySem.W.Frag} {cs : List Addr} {Av : Addr → Prop} {E : Hp → Prop} {H H' : Hp} {L : Addr} {st st' : Sto} {as : List D} (ek : EOk cs L E) (n : Now K cs Av E L H st as) (nL : L ∉ cs) (ex : Ext cs H H') (cl : Cl K cs Av H' st') : Now K cs Av E L H' st' as := by
  obtain ⟨acc, h1, h2⟩ := n.acc
  exact ⟨n.ok.ext ex cl, ek.ext _ _ n.ex ex, cl, acc, ex.k L _ h1 nL (fun _ z => nomatch z), h2.ext n.ok ex⟩
/-- an item goes into the list -/
theorem Now.put {K : PySem.W.Frag} {cs : List Addr} {Av : Addr → Prop} {E : Hp → Prop} {H : Hp} {L : Addr} {st : Sto} {as : List D} {y : V} {d : D} (ek : EOk cs L E) (n : Now K cs Av E L H st as) (nL : L ∉ cs) (aL : Av L) (r : Rp K cs Av H y d) (hl : (as ++ [d]).length ≤ maxLen) :
    ∃ acc, H L = some (.lst acc) ∧ acc.length < sizeLine ∧ Now K cs Av E L (upd H L (.lst (acc ++ [y]))) st (as ++ [d]) := by
  obtain ⟨acc, h1, h2⟩ := n.acc
  have hlt : acc.length < sizeLine := by
    have := maxLen_le
    simp at hl
    rw [h2.length]
    omega
  have ap : Avd Av (· = L) H := ⟨fun a h => by rw [h]; exact aL, fun a h => by rw [h]; exact ⟨acc, h1⟩⟩
  have ex : ExtP (· = L) H (upd H L (.lst (acc ++ [y]))) := fun b o e ne _ => by rw [upd_ne ne]; exact e
  refine ⟨acc, h1, hlt, ⟨n.ok.sub, fun a h => ?_, tabs_put n.ok.tab h1⟩, ek.put _ _ _ h1 n.ex, ⟨n.cl.len, n.cl.nd, fun i a ds e1 e2 => ?_⟩, acc ++ [y], upd_same .., (h2.p ap ex).append (.cons (r.p ap ex) .nil)⟩
  · by_cases e : a = L
    · subst e; exact ⟨_, upd_same ..⟩
    · rw [upd_ne e]; exact n.ok.lst a h
  · obtain ⟨vs, q1, q2⟩ := n.cl.at_ i a ds e1 e2
    have ne : a ≠ L := fun z => by
      subst z
      exact nL (List.mem_of_getElem? e1)
    exact ⟨vs, by rw [upd_ne ne]; exact q1, q2.p ap ex⟩
theorem mapM_len {f : D → Sto → Option (List D × Sto)} : ∀ {ds zs : List D} {st st' : Sto}, mapM f ds st = some (zs, st') → True := fun _ => trivial
theorem pr_tp {G G' : Ga} {sc sc' : Scope} {fp : Str → Bool} {w : Bool} {it : CI} {tg : Tg} {t i : Expr} (h : chkI G sc w it t i = true) (h' : chkT G' fp sc' tg t = true) (hp : prI it = true) : isTp tg = true := by
  cases tg with
  | tp ts => rfl
  | nm j =>
    cases t with
    | Name x p => cases it <;> first | (cases hp; done) | (simp [chkI] at h)
    | _ => exact ff h'
theorem comp_imp {K : PySem.W.Frag} {own : List Nat} {tg : Tg} {it : CI} {ifs : CEs} {elt : CE} (h3 : tgIn own tg = true) (hpr : prI it = true → isTp tg = true) {σ : L2.St} {H : Hp} {Q : VK} {te : TE} (hte : ∀ σ' H' Q', L2.wipe σ' own = L2.wipe σ own → tS K F elt σ' H' Q' → te σ' H' Q') (h : tS K F (.comp own tg it ifs elt) σ H Q) :
    tLc (tI K F it true) (tG K tg) (tF K F ifs) te own σ H Q := by
  obtain ⟨cs, Av, ρ, st, r, st', ok, cl, en, hev, q⟩ := h
  simp only [evE] at hev
  split at hev
  · rename_i ds st1 e1
    split at hev
    · rename_i ys st2 e2
      split at hev
      · rename_i hlen
        simp only [Option.some.injEq, Prod.mk.injEq] at hev
        obtain ⟨rfl, rfl⟩ := hev
        refine ⟨cs, Av, ρ, st, ds, st1, ok, cl, en, e1, fun J H1 x1 c1 wk => fun L hL => ?_⟩
        have ok1 := ok.ext x1 c1
        have en1 := en.ext ok x1
        obtain ⟨Av', aL, nL, hAv, nw0, later⟩ := now_start ok1 c1 en1 wk hL
        have ek : EOk cs L (Ext cs H1) := EOk.base hL
        have hHL : H L = none := x1.no hL nL
        refine lc_loop (fun x H' Nx => tG K tg x (wipe σ own) H' fun σ2 H2 => wipe σ2 own = wipe σ own ∧ tF K F ifs σ2 H2 fun b H3 =>
          if b = true then te σ2 H3 fun y H4 => ∃ acc, H4 L = some (.lst acc) ∧ acc.length < sizeLine ∧ Nx (upd H4 L (.lst (acc ++ [y]))) else Nx H3) _ (fun Hn ex => ⟨_, (later Hn ex).2⟩) e2 (by simpa using hlen) nw0 (fun d sti ys1 st1' as Hn x H2 hf hl nw ex rp => ?_) (fun Hn nw => ?_)
        · have nw2 : Now K cs Av' (Ext cs H1) L H2 sti as := nw.next ek nL ex.all (nw.cl.ext nw.ok ex)
          split at hf
          · rename_i ρ1 hb
            refine ⟨cs, Av', wipeE ρ own, d, ρ1, ((later H2 nw2.ex).1).wipe own, rp.to hpr, hb, fun σ2 ap en2 => ⟨ap.wipe (tgIn_of h3), ?_⟩⟩
            split at hf
            · rename_i st3 hif
              refine ⟨cs, Av', ρ1, sti, true, st3, nw2.ok, nw2.cl, en2, hif, fun H3 x3 c3 => ?_⟩
              have nw3 := nw2.next ek nL x3 c3
              dsimp only
              rw [if_pos rfl]
              split at hf
              · rename_i y st4 hy
                cases hf
                refine hte _ _ _ (ap.wipe (tgIn_of h3)) ⟨cs, Av', ρ1, st3, y, _, nw3.ok, nw3.cl, en2.ext nw2.ok x3, hy, fun v H4 x4 c4 r4 => ?_⟩
                have nw4 := nw3.next ek nL x4 c4
                exact nw4.put ek nL aL (r4.1.rp nw3.ok.there) hl
              · cases hf
            · rename_i st3 hif
              cases hf
              refine ⟨cs, Av', ρ1, sti, false, _, nw2.ok, nw2.cl, en2, hif, fun H3 x3 c3 => ?_⟩
              dsimp only
              rw [if_neg (by decide), List.append_nil]
              exact nw2.next ek nL x3 c3
            · cases hf
          · cases hf
        · obtain ⟨acc, ha, rs⟩ := nw.acc
          have hA : ∀ a, Ev.add Av L a → Av' a ∨ Hn a = none := fun a h => .inl (h.elim (hAv a) fun z => by rw [z]; exact aL)
          exact q _ Hn (x1.trans nw.ex) (nw.cl.av fun a h => .inl (hAv a h)) ⟨⟨L, acc, rfl, hHL, ha, rs.av hA⟩, fun a ds h1 _ => by cases h1; exact nw.cl.av hA⟩
      · cases hev
    · cases hev
  · cases hev
/-- no slot owns a list -/
def NoO (ρ : Rho) : Prop := ∀ (i : Nat) (ds : List D), ρ[i]? ≠ some (some (RV.o ds))
theorem NoO.hide (ρ : Rho) : NoO (hideO ρ) := fun i ds e => by
  unfold hideO at e
  rw [List.getElem?_map] at e
  match h : ρ[i]?, e with
  | some none, e => simp [noOwn] at e
  | some (some (.o _)), e => simp [noOwn] at e
  | some (some (.v _)), e => simp [noOwn] at e
theorem NoO.set {ρ : Rho} (h : NoO ρ) (i : Nat) (o : Option RV) (ho : ∀ ds : List D, o ≠ some (RV.o ds)) : NoO (List.set ρ i o) := fun j ds e => by
  by_cases hj : i = j
  · subst hj
    by_cases hl : i < ρ.length
    · rw [List.getElem?_set_self hl] at e
      exact ho ds (Option.some.inj e)
    · rw [List.getElem?_eq_none (by simpa using hl)] at e
      cases e
  · rw [List.getElem?_set_ne hj] at e
    exact h j ds e
theorem NoO.wipe {ρ : Rho} (h : NoO ρ) : ∀ own : List Nat, NoO (wipeE ρ own)
  | [] => h
  | i :: r => (NoO.wipe h r).set i none (fun _ z => nomatch z)
mutual
theorem NoO.bind {ρ ρ' : Rho} (h : NoO ρ) : ∀ {t : Tg} {d : D}, bindTg t d ρ = some ρ' → NoO ρ'
  | .nm i, d, e => by
    simp only [bindTg] at e
    cases e
    exact h.set i _ (fun _ z => nomatch z)
  | .tp ts, .tuple ds, e => NoO.binds h (by simpa only [bindTg] using e)
  | .tp ts, .none, e => by simp [bindTg] at e
  | .tp ts, .bool _, e => by simp [bindTg] at e
  | .tp ts, .int _, e => by simp [bindTg] at e
  | .tp ts, .str _, e => by simp [bindTg] at e
  | .tp ts, .list _, e => by simp [bindTg] at e
  | .tp ts, .dict _, e => by simp [bindTg] at e
theorem NoO.binds {ρ ρ' : Rho} (h : NoO ρ) : ∀ {ts : Tgs} {ds : List D}, bindTgs ts ds ρ = some ρ' → NoO ρ'
  | .nil, [], e => by simp only [bindTgs] at e; cases e; exact h
  | .nil, _ :: _, e => by simp [bindTgs] at e
  | .cons _ _, [], e => by simp [bindTgs] at e
  | .cons t r, d :: ds, e => by
    simp only [bindTgs] at e
    split at e
    · rename_i ρ1 h1
      exact NoO.binds (NoO.bind h h1) e
    · cases e
end
theorem En.hide {K : PySem.W.Frag} {cs : List Addr} {Av : Addr → Prop} {H : Hp} {σ : L2.St} {ρ : Rho} (en : En K cs Av H σ ρ) : En K cs Av H σ (hideO ρ) := ⟨by simp [hideO, en.len], fun i => by
  have := en.at_ i
  unfold hideO
  rw [List.getElem?_map]
  match h : ρ[i]? with
  | none => trivial
  | some none => trivial
  | some (some (.o _)) => trivial
  | some (some (.v d)) => rw [h] at this; exact this⟩
theorem comp2_imp {K : PySem.W.Frag} {own : List Nat} {tg tg1 : Tg} {it it1 : CI} {ifs ifs1 : CEs} {elt : CE} (h3 : tgIn own tg = true) (hpr : prI it = true → isTp tg = true) (hpr1 : prI it1 = true → isTp tg1 = true) {σ : L2.St} {H : Hp} {Q : VK} (h : tS K F (.comp2 own tg it ifs tg1 it1 ifs1 elt) σ H Q) :
    tLc2 (tI K F it true) (tG K tg) (tF K F ifs) (tI K F it1 false) (tG K tg1) (tF K F ifs1) (tS K F elt) own (slotsOf tg1) σ H Q := by
  obtain ⟨cs, Av, ρ, st, r, st', ok, cl, en, hev, q⟩ := h
  simp only [evE] at hev
  split at hev
  · rename_i ds st1 e1
    split at hev
    · rename_i ys st2 e2
      split at hev
      · rename_i hlen
        simp only [Option.some.injEq, Prod.mk.injEq] at hev
        obtain ⟨rfl, rfl⟩ := hev
        refine ⟨cs, Av, ρ, st, ds, st1, ok, cl, en, e1, fun J H1 x1 c1 wk => fun L hL => ?_⟩
        have ok1 := ok.ext x1 c1
        have en1 := en.ext ok x1
        obtain ⟨Av', aL, nL, hAv, nw0, later⟩ := now_start ok1 c1 en1 wk hL
        have ek : EOk cs L (Ext cs H1) := EOk.base hL
        have hHL : H L = none := x1.no hL nL
        refine lc_loop (fun x H' Nx => tG K tg x (wipe σ own) H' fun σ2 H2 => wipe σ2 own = wipe σ own ∧ tF K F ifs σ2 H2 fun b H3 =>
          if b = true then tI K F it1 false σ2 H3 fun J1 H4 => ∃ W1 : Nat → Nat → Hp → Prop, (∃ m, W1 0 m H4) ∧ ∀ j k H, W1 j k H →
            (J1.stop j H ∧ Nx H) ∨ (J1.go j H ∧ ∃ Nx1 : Hp → Prop, (∀ H', Nx1 H' → ∃ k', k' < k ∧ W1 (j + 1) k' H') ∧ ∀ x H', J1.yld j H x H' → tG K tg1 x (wipe σ2 (slotsOf tg1)) H' fun σ3 H5 => wipe σ3 (slotsOf tg1) = wipe σ2 (slotsOf tg1) ∧ tF K F ifs1 σ3 H5 fun b H6 =>
              if b = true then tS K F elt σ3 H6 fun y H7 => ∃ acc, H7 L = some (.lst acc) ∧ acc.length < sizeLine ∧ Nx1 (upd H7 L (.lst (acc ++ [y]))) else Nx1 H6)
          else Nx H3) _ (fun Hn ex => ⟨_, (later Hn ex).2⟩) e2 (by simpa using hlen) nw0 (fun d sti ys1 st1' as Hn x H2 hf hl nw ex rp => ?_) (fun Hn nw => ?_)
        · have nw2 : Now K cs Av' (Ext cs H1) L H2 sti as := nw.next ek nL ex.all (nw.cl.ext nw.ok ex)
          split at hf
          · rename_i ρ1 hb
            refine ⟨cs, Av', wipeE (hideO ρ) own, d, ρ1, ((later H2 nw2.ex).1).hide.wipe own, rp.to hpr, hb, fun σ2 ap en2 => ⟨ap.wipe (tgIn_of h3), ?_⟩⟩
            split at hf
            · rename_i st3 hif
              refine ⟨cs, Av', ρ1, sti, true, st3, nw2.ok, nw2.cl, en2, hif, fun H3 x3 c3 => ?_⟩
              have nw3 := nw2.next ek nL x3 c3
              have en3 := en2.ext nw2.ok x3
              dsimp only
              rw [if_pos rfl]
              split at hf
              · rename_i es st4 hes
                refine ⟨cs, Av', ρ1, st3, es, st4, nw3.ok, nw3.cl, en3, hes, fun J1 H4 x4 c4 wk4 => ?_⟩
                have nw4 := nw3.next ek nL x4 c4
                have en4 := en3.ext nw3.ok x4
                have av4 : Avd Av' (avOf false cs Av') H4 := avd_of nw4.ok
                have ek1 : EOk cs L (fun Hn => Ext cs H1 Hn ∧ ExtP Av' H4 Hn) := ⟨fun a b q e => ⟨q.1.trans e, q.2.trans (e.p fun z hz => nw4.ok.sub z hz)⟩, fun a xs ys hL q => ⟨ek.put _ _ _ hL q.1, fun b x e n t => by
                  rw [upd_ne (fun z => n (by rw [z]; exact aL))]; exact q.2 b x e n t⟩⟩
                have nw4' : Now K cs Av' (fun Hn => Ext cs H1 Hn ∧ ExtP Av' H4 Hn) L H4 st4 as := ⟨nw4.ok, ⟨nw4.ex, ExtP.refl⟩, nw4.cl, nw4.acc⟩
                refine lc_loop (fun x H' Nx1 => tG K tg1 x (wipe σ2 (slotsOf tg1)) H' fun σ3 H5 => wipe σ3 (slotsOf tg1) = wipe σ2 (slotsOf tg1) ∧ tF K F ifs1 σ3 H5 fun b H6 =>
                  if b = true then tS K F elt σ3 H6 fun y H7 => ∃ acc, H7 L = some (.lst acc) ∧ acc.length < sizeLine ∧ Nx1 (upd H7 L (.lst (acc ++ [y]))) else Nx1 H6) _ (fun Hn ex => ⟨_, wk4.p av4 (by rw [show avOf false cs Av' = Av' from by unfold avOf; simp]; exact ex.2)⟩) hf hl nw4' (fun d5 st5 ys5 st5' as5 Hn5 x5 H5 hf5 hl5 nw5 ex5 rp5 => ?_) (fun Hn nw => ⟨nw.ok, nw.ex.1, nw.cl, nw.acc⟩)
                have nw6 := nw5.next ek1 nL ex5.all (nw5.cl.ext nw5.ok ex5)
                split at hf5
                · rename_i ρ2 hb5
                  have en6 : En K cs Av' H5 σ2 ρ1 := by
                    have nO := (NoO.wipe (NoO.hide ρ) own).bind hb
                    refine ⟨en4.len, fun i => ?_⟩
                    have := en4.at_ i
                    match hρ : ρ1[i]? with
                    | none => trivial
                    | some none => trivial
                    | some (some (.o ds)) => exact absurd hρ (nO i ds)
                    | some (some (.v dd)) =>
                      rw [hρ] at this
                      obtain ⟨x, e1, e2⟩ := this
                      exact ⟨x, e1, e2.p av4 (by rw [show avOf false cs Av' = Av' from by unfold avOf; simp]; exact nw6.ex.2)⟩
                  refine ⟨cs, Av', wipeE ρ1 (slotsOf tg1), d5, ρ2, en6.wipe _, rp5.to hpr1, hb5, fun σ3 ap5 en7 => ⟨ap5.wipe (fun i hi => hi), ?_⟩⟩
                  split at hf5
                  · rename_i st7 hif5
                    refine ⟨cs, Av', ρ2, st5, true, st7, nw6.ok, nw6.cl, en7, hif5, fun H7 x7 c7 => ?_⟩
                    have nw7 := nw6.next ek1 nL x7 c7
                    dsimp only
                    rw [if_pos rfl]
                    split at hf5
                    · rename_i y st8 hy
                      cases hf5
                      refine ⟨cs, Av', ρ2, st7, y, _, nw7.ok, nw7.cl, en7.ext nw6.ok x7, hy, fun v H8 x8 c8 r8 => ?_⟩
                      have nw8 := nw7.next ek1 nL x8 c8
                      exact nw8.put ek1 nL aL (r8.1.rp nw7.ok.there) hl5
                    · cases hf5
                  · rename_i st7 hif5
                    cases hf5
                    refine ⟨cs, Av', ρ2, st5, false, _, nw6.ok, nw6.cl, en7, hif5, fun H7 x7 c7 => ?_⟩
                    dsimp only
                    rw [if_neg (by decide), List.append_nil]
                    exact nw6.next ek1 nL x7 c7
                  · cases hf5
                · cases hf5
              · cases hf
            · rename_i st3 hif
              cases hf
              refine ⟨cs, Av', ρ1, sti, false, _, nw2.ok, nw2.cl, en2, hif, fun H3 x3 c3 => ?_⟩
              dsimp only
              rw [if_neg (by decide), List.append_nil]
              exact nw2.next ek nL x3 c3
            · cases hf
          · cases hf
        · obtain ⟨acc, ha, rs⟩ := nw.acc
          have hA : ∀ a, Ev.add Av L a → Av' a ∨ Hn a = none := fun a h => .inl (h.elim (hAv a) fun z => by rw [z]; exact aL)
          exact q _ Hn (x1.trans nw.ex) (nw.cl.av fun a h => .inl (hAv a h)) ⟨⟨L, acc, rfl, hHL, ha, rs.av hA⟩, fun a ds h1 _ => by cases h1; exact nw.cl.av hA⟩
      · cases hev
    · cases hev
  · cases hev
theorem se_comp2 {own : List Nat} {tg tg1 : Tg} {it it1 : CI} {ifs ifs1 : CEs} {elt : CE} (hi : SI G F k it) (hf : SFs G.nl F k ifs) (hi1 : SI G.nl F k it1) (hf1 : SFs G.nl F k ifs1) (he : SE G.nl F k elt) : SE G F k (.comp2 own tg it ifs tg1 it1 ifs1 elt) := SE.of (fun {X e w} c h => by
  obtain ⟨x, t, i, fs, t1, i1, fs1, scope, p, rfl, h1, h2, h3, h4, h5, h6, h7, h8, h9, h10, h11, h12⟩ := inv_comp2 h
  have hblk := blkOk_by (by rw [c.N]; exact h1 : blkC X.N X.env.scope scope (chkOwn G.N own) = true)
  refine PEimp (pe_lc2 (own := chkOwn G.N own) (vs1 := slotsOf tg1) c.calm (by rw [c.N]; exact c.nd) (hi.i c h2) hblk (by rw [own_map]; exact tgIn_of h7) (g := tG X.K tg) (tt := tF X.K F ifs) (wi1 := tI X.K F it1 false) (g1 := tG X.K tg1) (tt1 := tF X.K F ifs1) (te := tS X.K F elt)
    (fun s H C cl fp => tg_ok (fp := fun x => scope.names.lookup x == some .cell) (c.blk s H scope C cl fp) (fun x hx => hx) h4) (fun s H C cl fp => hf.f (c.blk s H scope C cl fp) h5)
    (fun s H C cl fp => hi1.i (c.blk s H scope C cl fp) h6) (fun s H C cl fp => tg_ok (fp := fun x => scope.names.lookup x == some .cell) (c.blk s H scope C cl fp) (fun x hx => hx) h8) (fun s H C cl fp => hf1.f (c.blk s H scope C cl fp) h9)
    (fun s H C cl fp => he.s (c.blk s H scope C cl fp) h10) (foldOk h11 _) (fun env => foldOk h12 env)) fun σ H Q h' => by rw [own_map]; exact comp2_imp h3 (pr_tp h2 h4) (pr_tp h6 h8) h') (fun h => by obtain ⟨x, t, i, fs, t1, i1, fs1, scope, p, rfl, _⟩ := inv_comp2 h; exact ⟨rfl, rfl⟩)
end
end Ev

set_option Elab.async false
set_option linter.all false
set_option maxRecDepth 100000
set_option maxHeartbeats 4000000
/-! sorted(set(..)) of a list of ints. -/
namespace Ev
variable [Zc]
open PySem PySem.Spec PyProof.Rows L2
/-- the empty set's object -/
abbrev set0 (w : World) : Obj := { cls := .type "set", dict := none, data := .set #[] 0 (.fresh 0 0 (!w.params.followText "set-order")) }
section
variable {P : Program} {w : World} {A : Around} {E : Value → Shared → Prop} {s : Shared}
set_option maxHeartbeats 8000000 in
theorem set_of_ints {l : Addr} {items : Array Value} (ns : List Int) {Q : Value → Shared → Prop} (hh : A.handled = none) (hl : s.heap.IsList l items) (hit : IntsAre items.toList ns) (hb : ns.length + 1 < scanBound)
    (h : ∀ (h' : Heap) (tk c : Nat), SetR w h' s.heap.objs.size (fun j => decide (j ∈ ns)) c → c ≤ ns.length → (∀ b o, s.heap.get? b = some o → h'.get? b = some o) → Q (.ref s.heap.objs.size) { s with heap := h', toks := tk }) :
    wpAny (model P w) A (call (.type "set") [.ref l]) Q E s := by
  have hisz : items.size = ns.length := (Array.length_toList (xs := items)).symm.trans (IntsAre.length hit)
  obtain ⟨c, tl, hmro⟩ := F.called_set.mro
  have hmade := F.called_set.made; have hsub := F.called_set.sub; have h1 := F.called_set.notType; have h2 := F.called_set.canCreate; have hct := F.typeCall_set_1 (.ref l)
  refine wpAny_call (codeAny_of_tree ?_); show wpAny _ _ (callAny (.type "set") _) _ _ _
  refine wpAny_pure ⟨Code.quiet_builtin _ (by decide +kernel), codeAny_builtin F.entry_type_call (by
    rw [Around.under_plain (weight_type_call_type "set" [.ref l] []) rfl]
    repeat (any_goals (first | assumption | wp_step))
    refine codeAny_mono (code_set_led1 (.ref l) (E := E) (Q₁ := fun obj s₁ => obj = .ref s.heap.objs.size ∧ s₁ = { s with heap := s.heap.push (set0 w) }) ⟨rfl, rfl⟩) fun r s₁ hr => ?_
    cases r with
    | error e => exact hr
    | ok fl =>
      cases fl with
      | ret obj =>
        obtain ⟨rfl, rfl⟩ := hr
        have hS : (s.heap.push (set0 w)).get? s.heap.objs.size = some (set0 w) := Heap.get?_push_size _ rfl
        have hT : Shared.TypeIs { s with heap := s.heap.push (set0 w) } (.ref s.heap.objs.size) "set" := ⟨_, hS, rfl⟩
        have hli := F.called_set.init.lookup; have hbi := F.called_set.init.bind (.ref s.heap.objs.size)
        repeat (any_goals (first | assumption | wp_step))
        refine codeAny_mono (codeAny_call_builtin (R := wants (fun r s₂ => r = .none ∧ ∃ h' tk c, s₂ = { s with heap := h', toks := tk } ∧ SetR w h' s.heap.objs.size (fun j => decide (j ∈ ns)) c ∧ c ≤ ns.length ∧ (∀ b o, s.heap.get? b = some o → h'.get? b = some o)) E) F.called_set.init.plain F.entry_set_init (check_set_init_1 hT ?_)) fun r₂ s₂ hr₂ => ?_
        · obtain ⟨⟨ocls, odict, odata, oslots⟩, hol, hcl, nl, hdl⟩ := hl
          simp only at hcl hdl
          subst hcl hdl
          have hol' : (s.heap.push (set0 w)).get? l = some { cls := .type "list", dict := odict, data := .seq items nl, slots := oslots } := Heap.get?_push_of_some _ hol
          have hsls := F.sub_list_set; have hslf := F.sub_list_frozenset
          have hne : (Value.type "list" == Value.type "dict") = false := by decide
          have hl1 : (s.heap.push (set0 w)).IsList l items := ⟨_, hol', rfl, nl, rfl⟩
          unfold Builtin.«set.__init__» noKeywords Builtin.Frozenset.updateFrom
          generalize hPI : pyIter = PI
          wp_walk
          subst hPI
          refine wpAny_pyIter_list hl1 (wpAny_bind (wpAny_runValue ?_))
          have hlS : l < s.heap.objs.size := Heap.lt_size hol
          have hz1 : (s.heap.push (set0 w)).objs.size = s.heap.objs.size + 1 := Heap.size_push ..
          have hval : ∀ (i : Nat) (v : Value), items[i]? = some v → ∃ k t, ns[i]? = some k ∧ v = .int k t := fun i v hv => by
            have hi : i < ns.length := hisz ▸ (Array.getElem?_eq_some_iff.mp hv).1
            obtain ⟨t, e⟩ := PyProof.Rows.IntsAre.int_at hit i v (Array.getElem?_toList ▸ hv)
            exact ⟨ns[i], t, List.getElem?_eq_getElem hi, by rw [e, List.getD_eq_getElem?_getD, List.getElem?_eq_getElem hi] <;> rfl⟩
          refine set_update_ints ((Walks.list (show A.in1.in1.in1.handled = none by simp [hh]) _ l (by rw [hz1]; exact Nat.ne_of_lt (Nat.lt_succ_of_lt hlS)) items).toS) s.heap.objs.size
            (by rw [hz1]; simp only [List.mem_cons, List.not_mem_nil, or_false, not_or]; exact ⟨Nat.ne_of_lt (Nat.lt_succ_self _), Nat.ne_of_gt hlS⟩) ns hisz hb hval (items.size - 0) 0 _ (by omega) (Nat.zero_le _)
            ⟨⟨_, Heap.get?_push_size _ rfl, rfl, rfl⟩, (hl1.push _)⟩ ⟨0, Nat.le_refl 0, setR_new_at (Heap.get?_push_of_some _ hS)⟩ fun s' c' hm hc' hS' => ?_
          obtain ⟨h', g2, d', tk', os'⟩ := s'
          have eg : g2 = s.gens := hm.gens; have ed : d' = s.drawn := hm.drawn; have eo : os' = s.os := hm.os
          subst eg ed eo
          show wpAny _ _ _ _ _ _; refine wpAny_pure ?_; show wpAny _ _ (ret Value.none) _ _ _
          refine wpAny_pure ⟨rfl, h', tk', c', rfl, hS', hisz ▸ hc', fun b o e => ?_⟩
          have hb0 : b < s.heap.objs.size := Heap.lt_size e
          exact hm.heap b o (by rw [hz1]; simp only [List.mem_cons, List.not_mem_nil, or_false, not_or]; exact ⟨Nat.ne_of_lt hb0, Nat.ne_of_lt (Nat.lt_succ_of_lt hb0)⟩) (Heap.get?_push_of_some _ (Heap.get?_push_of_some _ e))
        · cases r₂ with
          | error e => exact hr₂
          | ok fl₂ =>
            cases fl₂ with
            | ret r =>
              obtain ⟨rfl, h', tk, c', rfl, hS', hc', hk'⟩ := hr₂
              repeat (any_goals (first | assumption | wp_step))
              exact h _ _ _ hS' hc' hk'
            | _ => exact hr₂.elim
      | _ => exact hr.elim)⟩
end
section
variable {X : Cx}
def rSetI (K : PySem.W.Frag) (w : World) : List V → Hp → VK → Prop := fun xs H Q => ∃ (l : Addr) (ns : List Int), xs = [V.ref l] ∧ (SqL K H l (ns.map V.int) ∨ SqT K H l (ns.map V.int)) ∧ ns.length < 60 ∧
  ∀ p c, H p = none → c ≤ ns.length → Q (.ref p) (upd H p (SetO w p (fun j => decide (j ∈ ns)) c))
theorem cr_setI (hc : X.calm = true) : CallR X (.type "set") (rSetI X.K X.w) := by
  intro pins s σ H xs us Q I r h
  obtain ⟨l, ns, rfl, hl, hn, q⟩ := h
  rw [Vals.ref1 r]
  have hf : H s.heap.objs.size = none := I.hok.fresh (Nat.le_refl _)
  rcases hl with hl | hl
  · obtain ⟨its, rv, pl, hz⟩ := I.list hl
    refine set_of_ints (P := X.prog) (w := X.w) ns (I.ok.hd hc) pl.isList (by simpa using ints_of_vals rv) (by unfold scanBound; omega) fun h' tk c R hcn k => ?_
    exact ⟨.ref s.heap.objs.size, upd H s.heap.objs.size (SetO X.w s.heap.objs.size (fun j => decide (j ∈ ns)) c), I.laid (t' := tk) k (Nat.le_refl _) (setO_new R), rfl, q _ c hf hcn⟩
  obtain ⟨its, rv, pl, hz⟩ := I.tuple hl
  refine L2.call_set_tupI (P := X.prog) (w := X.w) ns (I.ok.hd hc) pl (by simpa using ints_of_vals rv) (by unfold scanBound; omega) fun h' tk c R hcn k => ?_
  exact ⟨.ref s.heap.objs.size, upd H s.heap.objs.size (SetO X.w s.heap.objs.size (fun j => decide (j ∈ ns)) c), I.laid (t' := tk) k (Nat.le_refl _) (setO_new R), rfl, q _ c hf hcn⟩
end
theorem uinsI_mem {x z : Int} : ∀ {l : List Int}, z ∈ uinsI x l ↔ z = x ∨ z ∈ l
  | [] => by simp [uinsI]
  | y :: r => by
    unfold uinsI
    split
    · simp
    · split
      · rename_i h; subst h; simp
      · simp only [List.mem_cons, uinsI_mem (l := r)]
        constructor
        · rintro (h | h | h) <;> simp [h]
        · rintro (h | h | h) <;> simp [h]
theorem uinsI_up {x : Int} : ∀ {l : List Int}, l.Pairwise (· < ·) → (uinsI x l).Pairwise (· < ·)
  | [], _ => by simp [uinsI]
  | y :: r, h => by
    have h' := h
    rw [List.pairwise_cons] at h
    unfold uinsI
    split
    · rename_i hxy
      exact List.pairwise_cons.mpr ⟨fun z hz => by
        rcases List.mem_cons.mp hz with rfl | hz
        · exact hxy
        · exact Int.lt_trans hxy (h.1 z hz), h'⟩
    · split
      · exact h'
      · rename_i h1 h2
        exact List.pairwise_cons.mpr ⟨fun z hz => by
          rcases uinsI_mem.mp hz with rfl | hz
          · omega
          · exact h.1 z hz, uinsI_up h.2⟩
theorem usort_mem {z : Int} : ∀ {l : List Int}, z ∈ usort l ↔ z ∈ l
  | [] => by simp [usort]
  | x :: r => by
    show z ∈ uinsI x (usort r) ↔ _
    rw [uinsI_mem, usort_mem (l := r), List.mem_cons]
theorem usort_up : ∀ (l : List Int), (usort l).Pairwise (· < ·)
  | [] => .nil
  | x :: r => uinsI_up (usort_up r)
theorem up_eq : ∀ {a b : List Int}, a.Pairwise (· < ·) → b.Pairwise (· < ·) → (∀ z, z ∈ a ↔ z ∈ b) → a = b
  | [], [], _, _, _ => rfl
  | [], y :: b, _, _, h => absurd ((h y).mpr (List.mem_cons_self ..)) (by simp)
  | x :: a, [], _, _, h => absurd ((h x).mp (List.mem_cons_self ..)) (by simp)
  | x :: a, y :: b, ha, hb, h => by
    rw [List.pairwise_cons] at ha hb
    have hxy : x = y := by
      rcases List.mem_cons.mp ((h x).mp (List.mem_cons_self ..)) with e | e
      · exact e
      rcases List.mem_cons.mp ((h y).mpr (List.mem_cons_self ..)) with e' | e'
      · exact e'.symm
      have := hb.1 x e
      have := ha.1 y e'
      omega
    subst hxy
    rw [up_eq ha.2 hb.2 fun z => ?_]
    constructor
    · intro hz
      rcases List.mem_cons.mp ((h z).mp (List.mem_cons_of_mem _ hz)) with e | e
      · subst e; exact absurd (ha.1 z hz) (by omega)
      · exact e
    · intro hz
      rcases List.mem_cons.mp ((h z).mpr (List.mem_cons_of_mem _ hz)) with e | e
      · subst e; exact absurd (hb.1 z hz) (by omega)
      · exact e
end Ev

set_option Elab.async false
set_option linter.all false
set_option maxRecDepth 100000
set_option maxHeartbeats 4000000
/-! Expressions: count, sorted(set(..)), displays of dicts. -/
namespace Ev
variable [Zc]
open PySem PySem.Spec PyProof.Rows L2
section
variable {G : Ga} {F : FT} {k : Nat} {X : Cx} {e : Expr} {ce a b c : CE} {w : Bool}
theorem few_one {e : Expr} {cp : Pos} (h : plainE e = true) : ((backTo cp (starEach [e] X.env)).all (fun x => !x.1) && (backToKw cp (keywordEach [] X.env)).all (fun x => x.1.isSome)
      && decide ([e].length + ([] : List Keyword).length + (if ([] : List Keyword).isEmpty then 0 else 1) < 30)) = true := by
  rw [star_plain h]; rfl
/-- o.m(e), o a tuple without a dict -/
def tBT (K : PySem.W.Frag) (r : V → List V → Hp → VK → Prop) (to : TE) (t : TA) : TE := fun σ H Q => to σ H fun x H1 => (∃ p xs, x = .ref p ∧ SqD K H1 p xs) ∧ t σ H1 fun xs H2 => r x xs H2 Q
theorem sqD_is {pins : List (Addr × Obj)} {σ : L2.St} {H : Hp} {s : Shared} {p : Addr} {xs : List V} (I : Inv X pins σ H s) (h : SqD X.K H p xs) : s.TypeIs (.ref p) "tuple" ∧ ∀ a, Value.ref p = .ref a → ∃ ob, s.heap.get? a = some ob ∧ ob.dict = none := by
  obtain ⟨its, _, pl, _⟩ := I.tuple h.t
  refine ⟨pl.typeIs, fun a e => ?_⟩
  cases e
  rcases h with ⟨o, h, hd⟩ | ⟨o, _, _, h, _, hd, _⟩
  · exact ⟨o, (I.hok p _ h).1, hd⟩
  · exact ⟨o, I.kIn _ _ h, hd⟩
theorem pe_bmT {o e : Expr} {es : List Expr} {to : TE} {t : TA} {name : Str} {apos cpos : Pos} {id : String} {r : V → List V → Hp → VK → Prop} (slot : Slot "tuple" name id) (hty : typeOf (.builtin id) = pure (.type "method_descriptor")) (hm : MtR X id r) (ho : PE X o to) (ha : PA X (e :: es) t)
    (hbase : attributeBase o name X.env (eval o X.env) = eval o X.env := by rfl)
    (hfew : ((backTo cpos (starEach (e :: es) X.env)).all (fun x => !x.1) && (backToKw cpos (keywordEach [] X.env)).all (fun x => x.1.isSome)
      && decide ((e :: es).length + ([] : List Keyword).length + (if ([] : List Keyword).isEmpty then 0 else 1) < 30)) = true := by rfl)
    (hline : (apos.endLine == cpos.line) = true := by rfl) (hs : starEach (e :: es) X.env = (false, eval e X.env) :: starEach es X.env := by rfl) (hplain : (backTo cpos (starEach es X.env)).any (·.1) = false := by rfl) :
    PE X (.Call (.Attribute o name apos) (e :: es) [] cpos) (tBT X.K r to t) := by
  refine ⟨fun pins s σ H Q I h => ?_⟩
  refine wpAny_Call_method_late hbase hfew hline rfl (thn (ho.run pins s σ H _ I h) fun v s1 ⟨x, H1, I1, r1, ⟨p, xs, ex, hd⟩, q1⟩ => ?_)
  subst ex
  obtain rfl : v = Value.ref p := r1
  obtain ⟨h1, h2⟩ := sqD_is I1 hd
  refine ⟨"tuple", id, PySem.F.plainAttrs_tuple, slot, hty, h1, h2, ?_⟩
  have hA := ha.run cpos pins s1 σ H1 _ I1 q1
  rw [hs] at hA ⊢
  refine Calls.callWith_builtin (by show (false || (backTo cpos (starEach es X.env)).any (·.1)) = false; rw [hplain] <;> rfl) (Calls.evalArgs_plain ?_)
  exact thn hA fun us s2 ⟨vs, H2, I2, r2, q2⟩ => hm pins s2 σ H2 (.ref p) vs _ us Q I2 rfl r2 q2
theorem pe_or2 {e : Expr} {t t' : TE} (h : PE X e t) (h' : PE X e t') : PE X e fun σ H Q => t σ H Q ∨ t' σ H Q := ⟨fun pins s σ H Q I hw => by
  rcases hw with hw | hw
  · exact h.run pins s σ H Q I hw
  · exact h'.run pins s σ H Q I hw⟩
def rCnt (K : PySem.W.Frag) : V → List V → Hp → VK → Prop := fun x xs H Q => ∃ cs Av d e z y, AvOk cs Av H ∧ Rw K cs Av H x d ∧ xs = [y] ∧ Rp K cs Av H y e ∧ cnt2 d e = some z ∧ (∃ ds, d = .list ds) ∧ ∀ v, Rp K cs Av H v z → Q v H
def rCntT (K : PySem.W.Frag) : V → List V → Hp → VK → Prop := fun x xs H Q => ∃ cs Av d e z y, AvOk cs Av H ∧ Rw K cs Av H x d ∧ xs = [y] ∧ Rp K cs Av H y e ∧ cnt2 d e = some z ∧ (∃ ds, d = .tuple ds) ∧ ∀ v, Rp K cs Av H v z → Q v H
theorem mt_cnt (hu : X.A.units + 100 < cLine) : MtR X "list.count" (rCnt X.K) := by
  intro pins s σ H x xs v us Q I rx rs h
  obtain ⟨cs, Av, d, e, z, y, ok, hx, rfl, hy, hz, ⟨ds, rfl⟩, q⟩ := h
  simp only [cnt2] at hz
  split at hz
  · rename_i hl
    cases hz
    simp only [Bool.and_eq_true] at hl
    obtain ⟨p1, d1⟩ := shalAll_plain hl.1
    obtain ⟨p2, d2⟩ := shal_plain hl.2
    obtain ⟨u, rfl, ry⟩ := Vals.one rs
    obtain ⟨bs, r2⟩ := Inv.rd I ry hy.w p2
    obtain ⟨a, vs, rfl, hs, rv⟩ := hx.list
    obtain rfl : v = Value.ref a := rx
    obtain ⟨its, rvs, pl, hzz⟩ := I.list hs
    obtain ⟨as, ras⟩ := PySem.W.each_readsAll (fun d => d) (each_reads I (rps_in rvs rv) p1)
    have ras' : ReadsAll s.heap its.toArray.toList ds as := by simpa using ras
    exact SeqAt.count_list_data pl.isList ras' r2 p1 p2 (by omega) ⟨.int _, H, I.tok _, ⟨_, rfl⟩, q _ (.int _)⟩
  · cases hz
theorem mt_cntT (hu : X.A.units + 100 < cLine) : MtR X "tuple.count" (rCntT X.K) := by
  intro pins s σ H x xs v us Q I rx rs h
  obtain ⟨cs, Av, d, e, z, y, ok, hx, rfl, hy, hz, ⟨ds, rfl⟩, q⟩ := h
  simp only [cnt2] at hz
  split at hz
  · rename_i hl
    cases hz
    simp only [Bool.and_eq_true] at hl
    obtain ⟨p1, d1⟩ := shalAll_plain hl.1
    obtain ⟨p2, d2⟩ := shal_plain hl.2
    obtain ⟨u, rfl, ry⟩ := Vals.one rs
    obtain ⟨bs, r2⟩ := Inv.rd I ry hy.w p2
    obtain ⟨a, vs, rfl, hs, rv⟩ := hx.tuple
    obtain rfl : v = Value.ref a := rx
    obtain ⟨its, rvs, pl, hzz⟩ := I.tuple hs.t
    obtain ⟨as, ras⟩ := PySem.W.each_readsAll (fun d => d) (each_reads I (rps_in rvs rv) p1)
    have ras' : ReadsAll s.heap its.toArray.toList ds as := by simpa using ras
    exact SeqAt.count_tuple_data (show s.heap.IsTuple a its.toArray from pl) ras' r2 p1 p2 (by omega) ⟨.int _, H, I.tok _, ⟨_, rfl⟩, q _ (.int _)⟩
  · cases hz
theorem se_cnt {x : CE} (ha : SE G F k a) (hx : SE G F k x) : SE G F k (.cnt a x) := SE.of (fun {X e w} c h => by
  obtain ⟨z, zp, ap, y, cp, rfl, h1, h2, h3, h4⟩ := inv_cnt h
  refine PEimp (pe_or2 (pe_bm PySem.F.plainAttrs_list PySem.F.slot_list_count PySem.F.type_list_count (mt_cnt c.u) (ha.w c h1) (pa_cons (hx.s c h3) pa_nil (star_plain h2 _ _)) rfl (few_one h2) h4 (star_plain h2 _ _) rfl)
    (pe_bmT PySem.F.slot_tuple_count PySem.F.type_tuple_count (mt_cntT c.u) (ha.w c h1) (pa_cons (hx.s c h3) pa_nil (star_plain h2 _ _)) rfl (few_one h2) h4 (star_plain h2 _ _) rfl)) fun σ H Q ⟨cs, Av, ρ, st, r, st', ok, cl, en, he, q⟩ => ?_
  simp only [evE] at he
  split at he
  · rename_i x1 st1 e1
    split at he
    · rename_i x2 st2 e2
      split at he
      · rename_i d e3
        simp only [Option.some.injEq, Prod.mk.injEq] at he
        obtain ⟨rfl, rfl⟩ := he
        have hl : (∃ ds, x1.d = .list ds) ∨ ∃ ds, x1.d = .tuple ds := by
          cases hd : x1.d with
          | list ds => exact .inl ⟨ds, rfl⟩
          | tuple ds => exact .inr ⟨ds, rfl⟩
          | _ => rw [hd] at e3; simp [cnt2] at e3
        rcases hl with ⟨ds, hd⟩ | ⟨ds, hd⟩
        · refine .inl ⟨cs, Av, ρ, st, x1, st1, ok, cl, en, e1, fun v H1 y1 c1 r1 => ?_⟩
          have ok1 := ok.ext y1 c1
          have r1b := r1
          rw [hd] at r1b
          obtain ⟨a, vs, rfl, hs, rs⟩ := r1b.list
          refine ⟨.inl ⟨rfl, vs, hs⟩, cs, Av, ρ, st1, x2, st2, ok1, c1, en.ext ok y1, e2, fun u H2 y2 c2 r2 => ?_⟩
          have ok2 := ok1.ext y2 c2
          exact ⟨cs, Av, x1.d, x2.d, d, u, ok2, r1.ext ok1 y2, rfl, r2.1.rp ok1.there, e3, ⟨ds, hd⟩, fun v hv => q v H2 (y1.trans y2) c2 (.vv hv)⟩
        · refine .inr ⟨cs, Av, ρ, st, x1, st1, ok, cl, en, e1, fun v H1 y1 c1 r1 => ?_⟩
          have ok1 := ok.ext y1 c1
          have r1b := r1
          rw [hd] at r1b
          obtain ⟨a, vs, rfl, hs, rs⟩ := r1b.tuple
          refine ⟨⟨a, vs, rfl, hs⟩, cs, Av, ρ, st1, x2, st2, ok1, c1, en.ext ok y1, e2, fun u H2 y2 c2 r2 => ?_⟩
          have ok2 := ok1.ext y2 c2
          exact ⟨cs, Av, x1.d, x2.d, d, u, ok2, r1.ext ok1 y2, rfl, r2.1.rp ok1.there, e3, ⟨ds, hd⟩, fun v hv => q v H2 (y1.trans y2) c2 (.vv hv)⟩
      · cases he
    · cases he
  · cases he) (fun h => by obtain ⟨z, zp, ap, y, cp, rfl, _⟩ := inv_cnt h; exact ⟨rfl, rfl⟩)
theorem se_sset (ha : SE G F k a) : SE G F k (.sset a) := SE.of (fun {X e w} c h => by
  obtain ⟨p, p2, y, p3, p4, rfl, h1, h2, h3, h4⟩ := inv_sset h
  have m1 : X.mg "sorted" = none := c.g.blt _ (by simp [bltNames])
  have m2 : X.mg "set" = none := c.g.blt _ (by simp [bltNames])
  have inner : PE X (.Call (.Name "set" p2) [y] [] p3) (tCB (rSetI X.K X.w) (tCons (tW X.K F a) tNil)) :=
    pe_callTy (cr_setI c.calm) (isGl_of h2) m2 (by decide +kernel) (pa_cons (ha.w c h4) pa_nil (star_plain h3 _ _)) (by decide) (by decide) (star_plain h3 _ _) rfl
  refine PEimp (pe_callB (cr_sortedSet c.calm) (isGl_of h1) m1 (by decide +kernel) (pa_cons inner pa_nil (star_plain rfl _ _)) (by decide) (by decide) (star_plain rfl _ _) rfl) fun σ H Q ⟨cs, Av, ρ, st, r, st', ok, cl, en, he, q⟩ => ?_
  simp only [evE] at he
  split at he
  · rename_i x st1 e1
    split at he
    · rename_i ds e2
      simp only [Option.some.injEq, Prod.mk.injEq] at he
      obtain ⟨rfl, rfl⟩ := he
      refine ⟨cs, Av, ρ, st, x, _, ok, cl, en, e1, fun v H1 x1 c1 r1 => ?_⟩
      have ok1 := ok.ext x1 c1
      have key : ∃ a ns, v = .ref a ∧ (SqL X.K H1 a (ns.map V.int) ∨ SqT X.K H1 a (ns.map V.int)) ∧ ns.length < 60 ∧ ds = (usort ns).map .int := by
        unfold sset1 at e2
        split at e2
        · rename_i xs hx
          split at e2
          · rename_i ns hn
            split at e2
            · rename_i hl
              cases e2
              rw [hx] at r1
              obtain ⟨a, vs, rfl, hs, rs⟩ := r1.list
              obtain ⟨rfl, _⟩ := rs.ints_of hn
              exact ⟨a, ns, rfl, .inl hs, hl, rfl⟩
            · cases e2
          · cases e2
        · rename_i xs hx
          split at e2
          · rename_i ns hn
            split at e2
            · rename_i hl
              cases e2
              rw [hx] at r1
              obtain ⟨a, vs, rfl, hs, rs⟩ := r1.tuple
              obtain ⟨rfl, _⟩ := rs.ints_of hn
              exact ⟨a, ns, rfl, .inr hs.t, hl, rfl⟩
            · cases e2
          · cases e2
        · cases e2
      obtain ⟨a, ns, rfl, hs, hl, rfl⟩ := key
      refine ⟨a, ns, rfl, hs, hl, fun p c' hp hc' => ⟨p, _, c', rfl, upd_same .., by omega, fun ms p' hup hmem hlen hp' => ?_⟩⟩
      have e : ms = usort ns := up_eq hup (usort_up ns) fun z => by rw [hmem z, usort_mem]; simp
      subst e
      have y1 : Ext [] H1 (upd H1 p (SetO X.w p (fun j => decide (j ∈ ns)) c')) := Ext.upd hp
      have y2 := y1.trans (Ext.upd (o := .lst ((usort ns).map V.int)) hp')
      have hp1 : H1 p' = none := y1.free hp'
      refine q _ _ (x1.trans y2.all) (c1.ext ok1 y2) (RpS.fresh (r := .o _) ⟨p', _, rfl, hp1, upd_same .., Rps.ints _⟩ x1 ok1 c1 y2)
    · cases he
  · cases he) (fun h => by obtain ⟨p, p2, y, p3, p4, rfl, _⟩ := inv_sset h; exact ⟨rfl, rfl⟩)
theorem PE.never {e : Expr} : PE X e (fun _ _ _ => False) := ⟨fun _ _ _ _ _ _ h => h.elim⟩
/-! ### displays of dicts -/
def tPs (K : PySem.W.Frag) (F : FT) (ks : List Str) (ces : CEs) (σ : L2.St) (H : Hp) (Q : List (V × V) → Hp → Prop) : Prop := ∃ (cs : List Addr) (Av : Addr → Prop) (ρ : Rho) (st : Sto) (ds : List D) (st' : Sto),
  AvOk cs Av H ∧ Cl K cs Av H st ∧ En K cs Av H σ ρ ∧ evEs F ces ρ st = some (ds, st') ∧ ∀ vs H', Ext cs H H' → Cl K cs Av H' st' → Rps K cs Av H' vs ds → Q (((ks.map Sum.inr : List L2.Key).zip vs).map fun p => (kV p.1, p.2)) H'
structure SDs (G : Ga) (F : FT) (k : Nat) (ces : CEs) : Prop where
  d : ∀ {X : Cx} {ks : List Str} {keys : List (Option Expr)} {vals : List Expr} {pos : Pos}, Cd G F k X → chkKy ks keys = true → chkAs G X.env.scope false ces vals = true → keys.length = vals.length →
    ∃ trs, PPs X pos keys vals trs ∧ ∀ σ H Q, tPs X.K F ks ces σ H Q → tPairs trs σ H Q
theorem ky_nil {ks : List Str} (h : chkKy ks [] = true) : ks = [] := by
  cases ks with
  | nil => rfl
  | cons x r => exact ff h
theorem sds_nil : SDs G F k .nil := ⟨fun {X ks keys vals pos} c h1 h2 hl => by
  cases vals with
  | cons e es => exact ff h2
  | nil =>
    cases keys with
    | cons => simp at hl
    | nil =>
      obtain rfl := ky_nil h1
      exact ⟨[], pps_nil, fun σ H Q ⟨cs, Av, ρ, st, ds, st', ok, cl, en, he, q⟩ => by
        simp only [evEs, Option.some.injEq, Prod.mk.injEq] at he
        obtain ⟨rfl, rfl⟩ := he
        exact q [] H (Ext.refl _ _) cl .nil⟩⟩
theorem sds_cons {r : CEs} (hs : SE G F k ce) (hr : SDs G F k r) : SDs G F k (.cons false ce r) := ⟨fun {X ks keys vals pos} c h1 h2 hl => by
  cases vals with
  | nil => exact ff h2
  | cons e es =>
    cases keys with
    | nil => simp at hl
    | cons ky keys =>
      cases ks with
      | nil => exact ff h1
      | cons x ks =>
        match ky, h1 with
        | some (.Constant (.str y) j p), h1 =>
          have h1' : (x == y && chkKy ks keys) = true := h1
          rw [Bool.and_eq_true] at h1'
          obtain rfl := eq_of_beq h1'.1
          have h2' : (plainE e && chkE G X.env.scope false ce e && chkAs G X.env.scope false r es) = true := h2
          simp only [Bool.and_eq_true] at h2'
          obtain ⟨trs, pp, hq⟩ := hr.d (pos := pos) c h1'.2 h2'.2 (by simpa using hl)
          refine ⟨(tC (.str x), tS X.K F ce) :: trs, pps_cons pe_str (hs.s c h2'.1.2) pp, fun σ H Q ⟨cs, Av, ρ, st, ds, st', ok, cl, en, he, q⟩ => ?_⟩
          simp only [evEs] at he
          split at he
          · rename_i x1 st1 e1
            split at he
            · rename_i ds1 st2 e2
              simp only [Option.some.injEq, Prod.mk.injEq] at he
              obtain ⟨rfl, rfl⟩ := he
              refine ⟨cs, Av, ρ, st, x1, st1, ok, cl, en, e1, fun v H1 y1 c1 r1 => ?_⟩
              have ok1 := ok.ext y1 c1
              refine hq σ H1 _ ⟨cs, Av, ρ, st1, ds1, _, ok1, c1, en.ext ok y1, e2, fun vs H2 y2 c2 r2 => ?_⟩
              exact q (v :: vs) H2 (y1.trans y2) c2 (.cons ((r1.1.rp ok.there).ext ok1 y2) r2)
            · cases he
          · cases he
        | none, h1 => exact ff h1⟩
theorem sds_star {r : CEs} : SDs G F k (.cons true ce r) := ⟨fun {X ks keys vals pos} c h1 h2 hl => by
  cases vals <;> exact ff h2⟩
theorem putK_new {κ : Type} [DecidableEq κ] {kvs : List (κ × V)} {k : κ} {v : V} (h : ∀ p ∈ kvs, p.1 ≠ k) : putK kvs k v = kvs ++ [(k, v)] := by
  unfold putK
  rw [if_neg]
  simp only [List.any_eq_true, decide_eq_true_eq, not_exists, not_and]
  exact h
theorem mergeK_new : ∀ (more kvs : List (L2.Key × V)), (more.map (·.1)).Nodup → (∀ p ∈ kvs, ∀ q ∈ more, p.1 ≠ q.1) → mergeK kvs more = kvs ++ more
  | [], kvs, _, _ => by simp [mergeK]
  | q :: r, kvs, hn, hd => by
    rw [List.map_cons, List.nodup_cons] at hn
    show mergeK (putK kvs q.1 q.2) r = _
    rw [putK_new fun p hp => hd p hp q (List.mem_cons_self ..), mergeK_new r _ hn.2]
    · simp
    · intro p hp z hz
      rcases List.mem_append.mp hp with hp | hp
      · exact hd p hp z (List.mem_cons_of_mem _ hz)
      · rw [List.mem_singleton] at hp
        subst hp
        intro e
        exact hn.1 (List.mem_map.mpr ⟨z, hz, e.symm⟩)
theorem ky_len : ∀ {ks : List Str} {keys : List (Option Expr)}, chkKy ks keys = true → keys.length = ks.length ∧ keys.all (·.isSome) = true
  | [], [], _ => ⟨rfl, rfl⟩
  | [], _ :: _, h => ff h
  | _ :: _, [], h => ff h
  | x :: ks, ky :: keys, h => by
    match ky, h with
    | some (.Constant (.str y) j p), h =>
      have h' : (x == y && chkKy ks keys) = true := h
      rw [Bool.and_eq_true] at h'
      obtain ⟨a, b⟩ := ky_len h'.2
      exact ⟨by simp [a], by simp [b]⟩
    | none, h => exact ff h
theorem zip_keys {ks : List L2.Key} {vs : List V} (hl : ks.length = vs.length) (hn : ks.Nodup) : ((ks.zip vs).map (·.1)).Nodup := by
  rw [List.map_fst_zip (by omega)]
  exact hn
theorem nodup_inr {ks : List Str} (h : ks.Nodup) : (ks.map (Sum.inr : Str → L2.Key)).Nodup := List.Pairwise.map _ (fun a b hab z => hab (by injection z)) h
/-- a display's end: the dict is written -/
theorem disp_end {K : PySem.W.Frag} {cs : List Addr} {Av : Addr → Prop} {H H2 : Hp} {st1 : Sto} {p : Addr} {ks : List L2.Key} {vs : List V} {ds : List D} {Q : VK} (hp : H p = none) (ok0 : AvOk cs Av (upd H p (.dK []))) (x2 : Ext cs (upd H p (.dK [])) H2) (c2 : Cl K cs Av H2 st1) (r2 : Rps K cs Av H2 vs ds)
    (hk0 : ks ≠ []) (hc1 : ks.length = ds.length) (hc2 : ks.Nodup) (hc3 : ks.length ≤ 15) (q : ∀ v H', Ext cs H H' → Cl K cs Av H' st1 → Rp K cs Av H' v (dOf ks ds) → Q v H') :
    H2 p = some (.dK []) ∧ ∃ kvs : List (L2.Key × V), ((ks.zip vs).map fun p => (kV p.1, p.2)) = kvs.map (fun kv => (kV kv.1, kv.2)) ∧ kvs.length ≤ 15 ∧ Q (.ref p) (upd H2 p (.dK (mergeK [] kvs))) := by
  have hpn : p ∉ cs := ok0.not_cell (upd_same ..) fun xs z => nomatch z
  have hp2 : H2 p = some (.dK []) := x2.k p _ (upd_same ..) hpn (fun _ z => nomatch z)
  have hlv : ks.length = vs.length := by rw [hc1, r2.length]
  refine ⟨hp2, ks.zip vs, rfl, by rw [List.length_zip]; omega, ?_⟩
  rw [mergeK_new _ [] (zip_keys hlv hc2) (fun p hp => by cases hp), List.nil_append]
  have x3 : Ext cs H (upd H2 p (.dK (ks.zip vs))) := ⟨fun b o hb hn ht => by
    have hbp : b ≠ p := fun z => by subst z; rw [hp] at hb; cases hb
    rw [upd_ne hbp]
    exact x2.k b o (by rw [upd_ne hbp]; exact hb) hn ht, fun b ps hb => by
    have hbp : b ≠ p := fun z => by subst z; rw [hp] at hb; cases hb
    rw [upd_ne hbp]
    exact x2.t b ps (by rw [upd_ne hbp]; exact hb), fun t => tabs_dk (x2.tab ((Ext.upd (cs := cs) hp).tab t)) hp2⟩
  have c3 : Cl K cs Av (upd H2 p (.dK (ks.zip vs))) st1 := ⟨c2.len, c2.nd, fun n a ds h1 h2 => by
    obtain ⟨us, hu, ru⟩ := c2.at_ n a ds h1 h2
    exact ⟨us, by rw [upd_ne fun z => by subst z; rw [hp2] at hu; cases hu]; exact hu, ru.u hp2⟩⟩
  exact q _ _ x3 c3 (.dct (upd_same ..) hk0 hc1 (r2.u hp2) rfl)
theorem se_dlit {ks : List Str} {es : CEs} (hs : SDs G F k es) : SE G F k (.dlit ks es) := SE.of (fun {X e w} c h => by
  obtain ⟨keys, vals, p, rfl, h1, h2, h3⟩ := inv_dlit h
  obtain ⟨trs, pp, hq⟩ := hs.d (pos := p) c h1 h2 h3
  obtain ⟨hkl, hks⟩ := ky_len h1
  by_cases hk0 : ks = []
  · subst hk0
    have hk : keys = [] := List.eq_nil_of_length_eq_zero (by simpa using hkl)
    subst hk
    have hv : vals = [] := List.eq_nil_of_length_eq_zero (by simpa using h3.symm)
    subst hv
    refine PEimp pe_dnewT fun σ H Q ⟨cs, Av, ρ, st, r, st', ok, cl, en, he, q⟩ => fun p hp => ?_
    simp only [evE] at he
    split at he
    · rename_i ds st1 e1
      split at he
      · rename_i hc
        have hes : es = .nil := by
          cases es with
          | nil => rfl
          | cons s e r => cases s <;> exact ff h2
        subst hes
        simp only [evEs, Option.some.injEq, Prod.mk.injEq] at e1 he
        obtain ⟨rfl, rfl⟩ := e1
        obtain ⟨rfl, rfl⟩ := he
        have z : Ext [] H (upd H p (.dT [])) := Ext.upd hp
        exact q _ _ z.all (cl.ext ok z) (.vv (.dct0 (upd_same ..)))
      · cases he
    · cases he
  by_cases h15 : keys.length ≤ 15
  · refine PEimp (pe_disp pp hks h3 (fun z => hk0 (by subst z; exact List.eq_nil_of_length_eq_zero (by simpa using hkl.symm))) h15) fun σ H Q ⟨cs, Av, ρ, st, r, st', ok, cl, en, he, q⟩ => fun p hp => ?_
    simp only [evE] at he
    split at he
    · rename_i ds st1 e1
      split at he
      · rename_i hc
        obtain ⟨hc1, hc2, hc3⟩ := hc
        simp only [Option.some.injEq, Prod.mk.injEq] at he
        obtain ⟨rfl, rfl⟩ := he
        have x0 : Ext [] H (upd H p (.dK [])) := Ext.upd hp
        have c0 := cl.ext ok x0
        have ok0 := ok.ext x0.all c0
        refine hq σ _ _ ⟨cs, Av, ρ, st, ds, _, ok0, c0, en.ext ok x0.all, e1, fun vs H2 x2 c2 r2 => ?_⟩
        exact disp_end hp ok0 x2 c2 r2 (fun z => hk0 (List.map_eq_nil_iff.mp z)) (by rw [List.length_map]; exact hc1) (nodup_inr hc2) (by rw [List.length_map]; exact hc3) fun v H' a b c => q v H' a b (.vv c)
      · cases he
    · cases he
  · refine PEimp (PE.never) fun σ H Q ⟨cs, Av, ρ, st, r, st', ok, cl, en, he, q⟩ => ?_
    simp only [evE] at he
    split at he
    · split at he
      · rename_i hc
        omega
      · cases he
    · cases he) (fun h => by obtain ⟨keys, vals, p, rfl, _⟩ := inv_dlit h; exact ⟨rfl, rfl⟩)
/-! ### displays with names as keys, d.get(k, z), list.index -/
def tPi (K : PySem.W.Frag) (F : FT) (is : List Nat) (ces : CEs) (σ : L2.St) (H : Hp) (Q : List (V × V) → Hp → Prop) : Prop := ∃ (cs : List Addr) (Av : Addr → Prop) (ρ : Rho) (st : Sto) (ks : List L2.Key) (ds : List D) (st' : Sto),
  AvOk cs Av H ∧ Cl K cs Av H st ∧ En K cs Av H σ ρ ∧ keysAt ρ is = some ks ∧ evEs F ces ρ st = some (ds, st') ∧ ∀ vs H', Ext cs H H' → Cl K cs Av H' st' → Rps K cs Av H' vs ds → Q ((ks.zip vs).map fun p => (kV p.1, p.2)) H'
structure SDi (G : Ga) (F : FT) (k : Nat) (ces : CEs) : Prop where
  d : ∀ {X : Cx} {is : List Nat} {keys : List (Option Expr)} {vals : List Expr} {pos : Pos}, Cd G F k X → chkKn G X.env.scope is keys = true → chkAs G X.env.scope false ces vals = true → keys.length = vals.length →
    ∃ trs, PPs X pos keys vals trs ∧ ∀ σ H Q, tPi X.K F is ces σ H Q → tPairs trs σ H Q
theorem kn_nil {G : Ga} {sc : Scope} {is : List Nat} (h : chkKn G sc is [] = true) : is = [] := by
  cases is with
  | nil => rfl
  | cons x r => exact ff h
theorem sdi_nil : SDi G F k .nil := ⟨fun {X is keys vals pos} c h1 h2 hl => by
  cases vals with
  | cons e es => exact ff h2
  | nil =>
    cases keys with
    | cons => simp at hl
    | nil =>
      obtain rfl := kn_nil h1
      exact ⟨[], pps_nil, fun σ H Q ⟨cs, Av, ρ, st, ks, ds, st', ok, cl, en, hk, he, q⟩ => by
        simp only [evEs, Option.some.injEq, Prod.mk.injEq] at he
        obtain ⟨rfl, rfl⟩ := he
        simp only [keysAt, Option.some.injEq] at hk
        subst hk
        exact q [] H (Ext.refl _ _) cl .nil⟩⟩
theorem sdi_cons {r : CEs} (hs : SE G F k ce) (hr : SDi G F k r) : SDi G F k (.cons false ce r) := ⟨fun {X is keys vals pos} c h1 h2 hl => by
  cases vals with
  | nil => exact ff h2
  | cons e es =>
    cases keys with
    | nil => simp at hl
    | cons ky keys =>
      cases is with
      | nil => exact ff h1
      | cons i is =>
        match ky, h1 with
        | some (.Name y p), h1 =>
          have h1' : ((nmIs G.N i y && isVis X.env.scope y && okN y) && chkKn G X.env.scope is keys) = true := h1
          rw [Bool.and_eq_true] at h1'
          have h2' : (plainE e && chkE G X.env.scope false ce e && chkAs G X.env.scope false r es) = true := h2
          simp only [Bool.and_eq_true] at h2'
          obtain ⟨trs, pp, hq⟩ := hr.d (pos := pos) c h1'.2 h2'.2 (by simpa using hl)
          refine ⟨(tVar i, tS X.K F ce) :: trs, pps_cons (var_ok c h1'.1) (hs.s c h2'.1.2) pp, fun σ H Q ⟨cs, Av, ρ, st, ks, ds, st', ok, cl, en, hk, he, q⟩ => ?_⟩
          simp only [keysAt] at hk
          split at hk
          · rename_i a ks' hi hk'
            cases hk
            simp only [evEs] at he
            split at he
            · rename_i x1 st1 e1
              split at he
              · rename_i ds1 st2 e2
                simp only [Option.some.injEq, Prod.mk.injEq] at he
                obtain ⟨rfl, rfl⟩ := he
                obtain ⟨u, hu, ru⟩ := slot_v en hi
                cases ru
                refine ⟨.int a, hu, cs, Av, ρ, st, x1, st1, ok, cl, en, e1, fun v H1 y1 c1 r1 => ?_⟩
                have ok1 := ok.ext y1 c1
                refine hq σ H1 _ ⟨cs, Av, ρ, st1, ks', ds1, _, ok1, c1, en.ext ok y1, hk', e2, fun vs H2 y2 c2 r2 => ?_⟩
                exact q (v :: vs) H2 (y1.trans y2) c2 (.cons ((r1.1.rp ok.there).ext ok1 y2) r2)
              · cases he
            · cases he
          · cases hk
        | none, h1 => exact ff h1⟩
theorem sdi_star {r : CEs} : SDi G F k (.cons true ce r) := ⟨fun {X is keys vals pos} c h1 h2 hl => by
  cases vals <;> exact ff h2⟩
theorem kn_len {G : Ga} {sc : Scope} : ∀ {is : List Nat} {keys : List (Option Expr)}, chkKn G sc is keys = true → keys.length = is.length ∧ keys.all (·.isSome) = true
  | [], [], _ => ⟨rfl, rfl⟩
  | [], _ :: _, h => ff h
  | _ :: _, [], h => ff h
  | x :: ks, ky :: keys, h => by
    match ky, h with
    | some (.Name y p), h =>
      have h' : ((nmIs G.N x y && isVis sc y && okN y) && chkKn G sc ks keys) = true := h
      rw [Bool.and_eq_true] at h'
      obtain ⟨a, b⟩ := kn_len h'.2
      exact ⟨by simp [a], by simp [b]⟩
    | none, h => exact ff h
theorem keysAt_len {ρ : Rho} : ∀ {is : List Nat} {ks : List L2.Key}, keysAt ρ is = some ks → ks.length = is.length
  | [], ks, h => by simp only [keysAt, Option.some.injEq] at h; subst h; rfl
  | i :: is, ks, h => by
    simp only [keysAt] at h
    split at h
    · rename_i a ks' hi hk
      cases h
      rw [List.length_cons, List.length_cons, keysAt_len hk]
    · cases h
theorem se_dlitI {is : List Nat} {es : CEs} (hs : SDi G F k es) : SE G F k (.dlitI is es) := SE.of (fun {X e w} c h => by
  obtain ⟨keys, vals, p, rfl, h1, h2, h3⟩ := inv_dlitI h
  obtain ⟨trs, pp, hq⟩ := hs.d (pos := p) c h1 h2 h3
  obtain ⟨hkl, hks⟩ := kn_len h1
  by_cases hb : keys ≠ [] ∧ keys.length ≤ 15
  · refine PEimp (pe_disp pp hks h3 hb.1 hb.2) fun σ H Q ⟨cs, Av, ρ, st, r, st', ok, cl, en, he, q⟩ => fun p hp => ?_
    simp only [evE] at he
    split at he
    · rename_i ks ds st1 hk e1
      split at he
      · rename_i hc
        obtain ⟨hc0, hc1, hc2, hc3⟩ := hc
        simp only [Option.some.injEq, Prod.mk.injEq] at he
        obtain ⟨rfl, rfl⟩ := he
        have x0 : Ext [] H (upd H p (.dK [])) := Ext.upd hp
        have c0 := cl.ext ok x0
        have ok0 := ok.ext x0.all c0
        refine hq σ _ _ ⟨cs, Av, ρ, st, ks, ds, _, ok0, c0, en.ext ok x0.all, hk, e1, fun vs H2 x2 c2 r2 => ?_⟩
        exact disp_end hp ok0 x2 c2 r2 (fun z => hb.1 (List.eq_nil_of_length_eq_zero (by rw [hkl, ← keysAt_len hk, z]; rfl))) hc1 hc2 hc3 fun v H' a b c => q v H' a b (.vv c)
      · cases he
    · cases he
  · refine PEimp (PE.never) fun σ H Q ⟨cs, Av, ρ, st, r, st', ok, cl, en, he, q⟩ => ?_
    simp only [evE] at he
    split at he
    · rename_i ks ds st1 hk e1
      split at he
      · rename_i hc
        have hlk := keysAt_len hk
        exact absurd ⟨fun z => hc.1 (List.eq_nil_of_length_eq_zero (by rw [hlk, ← hkl, z]; rfl)), by omega⟩ hb
      · cases he
    · cases he) (fun h => by obtain ⟨keys, vals, p, rfl, _⟩ := inv_dlitI h; exact ⟨rfl, rfl⟩)
theorem idxI_at {k : Int} : ∀ {ns : List Int} {j : Nat}, idxI k ns = some j → ns[j]? = some k ∧ ∀ m, m < j → ns[m]? ≠ some k
  | [], j, h => by cases h
  | x :: r, j, h => by
    unfold idxI at h
    split at h
    · rename_i hx
      cases h
      exact ⟨by simp [hx], fun m hm => by omega⟩
    · rename_i hx
      cases hr : idxI k r with
      | none => rw [hr] at h; cases h
      | some i =>
        rw [hr] at h
        cases h
        obtain ⟨h1, h2⟩ := idxI_at hr
        refine ⟨by simpa using h1, fun m hm => ?_⟩
        cases m with
        | zero => simp [hx]
        | succ m => simpa using h2 m (by simp only at hm; omega)
def rIdxT (K : PySem.W.Frag) : V → List V → Hp → VK → Prop := fun x xs H Q => ∃ cs Av ds e j y, AvOk cs Av H ∧ Rw K cs Av H x (.tuple ds) ∧ xs = [y] ∧ Rp K cs Av H y e ∧ (shalAll 19 ds && flat e) = true ∧ (ds.findIdx? fun y => PyData.eqv y e) = some j ∧ Q (.int (j : Nat)) H
theorem mt_idxT (hu : X.A.units + 100 < cLine) : MtR X "tuple.index" (rIdxT X.K) := by
  intro pins s σ H x xs v us Q I rx rs h
  obtain ⟨cs, Av, ds, e, j, y, ok, hx, rfl, hy, hl, hj, q⟩ := h
  simp only [Bool.and_eq_true] at hl
  obtain ⟨p1, d1⟩ := shalAll_plain hl.1
  obtain ⟨p2, d2⟩ := shal_plain hl.2
  obtain ⟨u, rfl, ry⟩ := Vals.one rs
  obtain ⟨bs, r2⟩ := Inv.rd I ry hy.w p2
  obtain ⟨a, vs, rfl, hs, rv⟩ := hx.tuple
  obtain rfl : v = Value.ref a := rx
  obtain ⟨its, rvs, pl, hzz⟩ := I.tuple hs.t
  obtain ⟨as, ras⟩ := PySem.W.each_readsAll (fun d => d) (each_reads I (rps_in rvs rv) p1)
  have ras' : ReadsAll s.heap its.toArray.toList ds as := by simpa using ras
  obtain ⟨⟨cls, dd, data, sl⟩, ho, hc, n, hd⟩ := pl
  simp only at hc hd
  subst hc hd
  obtain ⟨hj', hit, hno⟩ := SeqAt.hit_at (d := e) ras' p1 hj
  exact call_meets PySem.F.slot_tuple_index ⟨_, ho, rfl⟩ PySem.F.entry_tuple_index (PySem.F.args_tuple_index_2 _ _) (TI.tuple_indexAt a its.toArray n dd sl u _ j hj' hit hno) ⟨ho, SeqAt.items_plain ras' r2 p1 p2 (by omega), ⟨.int _, H, I.tok _, ⟨_, rfl⟩, q⟩⟩
theorem se_idx {x : CE} (ha : SE G F k a) (hx : SE G F k x) : SE G F k (.idx a x) := SE.of (fun {X e w} c h => by
  obtain ⟨z, zp, ap, y, cp, rfl, h1, h2, h3, h4⟩ := inv_idx h
  refine PEimp (pe_or2 (pe_bm PySem.F.plainAttrs_list PySem.F.slot_list_index PySem.F.type_list_index mt_index (ha.w c h1) (pa_cons (hx.s c h3) pa_nil (star_plain h2 _ _)) rfl (few_one h2) h4 (star_plain h2 _ _) rfl)
    (pe_bmT PySem.F.slot_tuple_index PySem.F.type_tuple_index (mt_idxT c.u) (ha.w c h1) (pa_cons (hx.s c h3) pa_nil (star_plain h2 _ _)) rfl (few_one h2) h4 (star_plain h2 _ _) rfl)) fun σ H Q ⟨cs, Av, ρ, st, r, st', ok, cl, en, he, q⟩ => ?_
  simp only [evE] at he
  split at he
  · rename_i x1 st1 e1
    split at he
    · rename_i x2 st2 e2
      split at he
      · rename_i d e3
        simp only [Option.some.injEq, Prod.mk.injEq] at he
        obtain ⟨rfl, rfl⟩ := he
        have hl : (∃ ds kk ns j, x1.d = .list ds ∧ x2.d = .int kk ∧ ints? ds = some ns ∧ idxI kk ns = some j ∧ d = .int (j : Nat)) ∨ ∃ ds j, x1.d = .tuple ds ∧ (shalAll 19 ds && flat x2.d) = true ∧ (ds.findIdx? fun y => PyData.eqv y x2.d) = some j ∧ d = .int (j : Nat) := by
          unfold idx2 at e3
          split at e3
          · rename_i ds hd1
            split at e3
            · rename_i hl
              obtain ⟨j, hj, rfl⟩ := Option.map_eq_some_iff.mp e3
              exact .inr ⟨ds, j, hd1, hl, hj, rfl⟩
            · cases e3
          · rename_i ds kk hd1 hd2
            split at e3
            · rename_i ns hns
              obtain ⟨j, hj, rfl⟩ := Option.map_eq_some_iff.mp e3
              exact .inl ⟨ds, kk, ns, j, hd1, hd2, hns, hj, rfl⟩
            · cases e3
          · cases e3
        rcases hl with ⟨ds, kk, ns, j, hd1, hd2, hns, hj, rfl⟩ | ⟨ds, j, hd1, hl, hj, rfl⟩
        · refine .inl ⟨cs, Av, ρ, st, x1, st1, ok, cl, en, e1, fun v H1 y1 c1 r1 => ?_⟩
          have ok1 := ok.ext y1 c1
          have r1b := r1
          rw [hd1] at r1b
          obtain ⟨a, vs, rfl, hs, rs⟩ := r1b.list
          refine ⟨.inl ⟨rfl, vs, hs⟩, cs, Av, ρ, st1, x2, st2, ok1, c1, en.ext ok y1, e2, fun u H2 y2 c2 r2 => ?_⟩
          have r1c := r1.ext ok1 y2
          rw [hd1] at r1c
          obtain ⟨a', vs', e, hs', rs'⟩ := r1c.list
          cases e
          obtain ⟨rfl, _⟩ := rs'.ints_of hns
          have ru := (r2.1.rp ok1.there).w
          rw [hd2] at ru
          obtain rfl := ru.int
          obtain ⟨i1, i2⟩ := idxI_at hj
          refine ⟨a, ns.map V.int, .int kk, j, .int kk, rfl, rfl, hs', rfl, by simp [flatV], by simp [i1], by simp [eqV], fun m z' hm hz => ?_, q _ H2 (y1.trans y2) c2 (.vv (.int _))⟩
          rw [List.getElem?_map] at hz
          obtain ⟨z, hz1, rfl⟩ := Option.map_eq_some_iff.mp hz
          have := i2 m hm
          rw [hz1] at this
          show (z == kk) = false
          exact beq_eq_false_iff_ne.mpr fun e => this (by rw [e])
        · refine .inr ⟨cs, Av, ρ, st, x1, st1, ok, cl, en, e1, fun v H1 y1 c1 r1 => ?_⟩
          have ok1 := ok.ext y1 c1
          have r1b := r1
          rw [hd1] at r1b
          obtain ⟨a, vs, rfl, hs, rs⟩ := r1b.tuple
          refine ⟨⟨a, vs, rfl, hs⟩, cs, Av, ρ, st1, x2, st2, ok1, c1, en.ext ok y1, e2, fun u H2 y2 c2 r2 => ?_⟩
          have ok2 := ok1.ext y2 c2
          have r1c := r1.ext ok1 y2
          rw [hd1] at r1c
          exact ⟨cs, Av, ds, x2.d, j, u, ok2, r1c, rfl, r2.1.rp ok1.there, hl, hj, q _ H2 (y1.trans y2) c2 (.vv (.int _))⟩
      · cases he
    · cases he
  · cases he) (fun h => by obtain ⟨z, zp, ap, y, cp, rfl, _⟩ := inv_idx h; exact ⟨rfl, rfl⟩)
theorem two_m {x : Str} {xp ap cp : Pos} {e f : Expr} (h1 : plainE e = true) (h2 : plainE f = true) (h3 : (ap.endLine == cp.line) = true) : M2 X (.Name x xp) "get" ap e f cp := by
  have t : backTo cp (starEach [e, f] X.env) = [(false, eval e X.env), (false, eval f X.env)] := by
    rw [star_plain h1, star_plain h2]; rfl
  refine ⟨rfl, ?_, h3, t⟩
  rw [t]; rfl
theorem kV_of {K : PySem.W.Frag} {cs : List Addr} {Av : Addr → Prop} {H : Hp} {v : V} {d : D} {x : L2.Key} (h : Rw K cs Av H v d) (hk : kOf d = some x) : v = kV x := by
  cases d with
  | int i => cases hk; exact h.int
  | str s => cases hk; exact h.str
  | _ => cases hk
theorem se_dget {b z : CE} (ha : SE G F k a) (hb : SE G F k b) (hz : SE G F k z) : SE G F k (.dget a b z) := SE.of (fun {X e w} c h => by
  obtain ⟨x, xp, ap, y, f, cp, rfl, h1, h2, h3, h4, h5, h6⟩ := inv_dget h
  refine PEimp (pe_dget2 (by have := c.u; omega) (ha.s c h1) (hb.s c h4) (hz.s c h5) (two_m h2 h3 h6)) fun σ H Q ⟨cs, Av, ρ, st, r, st', ok, cl, en, he, q⟩ => ?_
  simp only [evE] at he
  split at he
  · rename_i x1 st1 e1
    split at he
    · rename_i x2 st2 e2
      split at he
      · rename_i x3 st3 e3
        split at he
        · rename_i d e4
          simp only [Option.some.injEq, Prod.mk.injEq] at he
          obtain ⟨rfl, rfl⟩ := he
          have hl : ∃ kvs kx, x1.d = .dict kvs ∧ kOf x2.d = some kx ∧ isDk (.dict kvs) = true ∧ d = (dAt kvs kx).getD x3.d := by
            unfold dget3 at e4
            split at e4
            · rename_i kvs kx hd1 hd2
              split at e4
              · rename_i hdk
                cases e4
                exact ⟨kvs, kx, hd1, hd2, hdk, rfl⟩
              · cases e4
            · cases e4
          obtain ⟨kvs, kx, hd1, hd2, hdk, rfl⟩ := hl
          refine ⟨cs, Av, ρ, st, x1, st1, ok, cl, en, e1, fun v H1 y1 c1 r1 => ?_⟩
          have ok1 := ok.ext y1 c1
          have r1b := r1.1.rp ok.there
          rw [hd1] at r1b
          cases r1b with
          | cell hn => simp [isDk, kOf] at hdk
          | exc => simp [isDk, kOf] at hdk
          | clo => simp [isDk, kOf] at hdk
          | @dct a ks vs ds kd hH h0 hle rs hk =>
            subst hk
            refine ⟨a, rfl, .inl ⟨_, .inl hH⟩, cs, Av, ρ, st1, x2, st2, ok1, c1, en.ext ok y1, e2, fun u H2 y2 c2 r2 => ?_⟩
            have ok2 := ok1.ext y2 c2
            refine ⟨cs, Av, ρ, st2, x3, _, ok2, c2, (en.ext ok y1).ext ok1 y2, e3, fun u3 H3 y3 c3 r3 => ?_⟩
            have ok3 := ok2.ext y3 c3
            have hy : u = kV kx := kV_of (r2.1.rp ok1.there).w hd2
            have rs3 := (rs.ext ok1 y2).ext ok2 y3
            have hH3 : H3 a = some (.dK (ks.zip vs)) := y3.k _ _ (y2.k _ _ hH (ok1.not_cell hH fun xs z => nomatch z) (fun _ z => nomatch z)) (ok2.not_cell (y2.k _ _ hH (ok1.not_cell hH fun xs z => nomatch z) (fun _ z => nomatch z)) fun xs z => nomatch z) (fun _ z => nomatch z)
            have x13 := (y1.trans y2).trans y3
            rcases dAt_rel (x := kx) hle rs3 with ⟨z1, z2⟩ | ⟨d', v', z1, z2, rv⟩
            · refine ⟨none, .inl ⟨_, _, .inl hH3, hy, z2.symm⟩, ?_⟩
              rw [z1] at q
              exact q _ H3 x13 c3 (.vv (r3.1.rp ok2.there))
            · refine ⟨some v', .inl ⟨_, _, .inl hH3, hy, z2.symm⟩, ?_⟩
              rw [z1] at q
              exact q _ H3 x13 c3 (.vv rv)
          | dct0 hH =>
            simp [isDk] at hdk
        · cases he
      · cases he
    · cases he
  · cases he) (fun h => by obtain ⟨x, xp, ap, y, f, cp, rfl, _⟩ := inv_dget h; exact ⟨rfl, rfl⟩)
end
end Ev

set_option Elab.async false
set_option linter.all false
set_option maxRecDepth 100000
set_option maxHeartbeats 4000000
/-! Closures made and called, caught errors looked at. -/
namespace Ev
variable [Zc]
open PySem PySem.Spec PyProof.Rows L2
theorem inv_lam {G : Ga} {sc : Scope} {e : Expr} {w : Bool} {n : Nat} (h : chkE G sc w (.lam n) e = true) : ∃ ps bd s2 p f es, e = .Lambda ps bd s2 p ∧ noArgs ps = true ∧ LamX.lamSB sc s2 = true ∧ lamAt G.lam n = some (f, es) ∧ chkLb G.nl s2 f es bd = true := by
  cases e
  case Lambda ps bd s2 p =>
    have h1 : (noArgs ps && LamX.lamSB sc s2 && (match lamAt G.lam n with
      | some (f, es) => chkLb G.nl s2 f es bd
      | none => false)) = true := h
    rw [Bool.and_eq_true, Bool.and_eq_true] at h1
    obtain ⟨⟨h2, h3⟩, h4⟩ := h1
    split at h4
    · rename_i f es hf
      exact ⟨ps, bd, s2, p, f, es, rfl, h2, h3, hf, h4⟩
    · cases h4
  all_goals exact ff h
theorem noArgs_eq {ps : Arguments} (h : noArgs ps = true) : ps = ⟨[], [], none, [], [], none, []⟩ := by
  unfold noArgs at h
  split at h
  · rfl
  · cases h
/-- a new code object, known by its name, goes into its table -/
theorem tabs_new {H : Hp} {P c' : Addr} {q : Str} {ps : Array Value} {pos : Pos} {T : List (Addr × Str)} (t : LamX.Tabs T H) (hP : H P = some (.tbl ps)) (hu : ∀ p ∈ T, p.1 = P → p.2 = q) (nC : H c' = none) :
    LamX.Tabs T (upd (upd H P (.tbl (ps ++ #[rawInt pos.line, rawInt pos.col, .ref c']))) c' (LamX.CodeO c' q)) := fun p hp => by
  obtain ⟨qs, b1, b2, b3⟩ := t p hp
  have up : ∀ {b : Addr} {o : HO}, H b = some o → b ≠ P → upd (upd H P (.tbl (ps ++ #[rawInt pos.line, rawInt pos.col, .ref c']))) c' (LamX.CodeO c' q) b = some o := fun {b o} z n => by
    rw [upd_ne (ne_of_none z nC), upd_ne n]; exact z
  have uc : ∀ {d : Addr} {q' : Str}, H d = some (LamX.CodeO d q') → d ≠ P := fun {d q'} z y => by
    rw [y, hP] at z
    unfold LamX.CodeO at z
    cases z
  by_cases hb : p.1 = P
  · have hq := hu p hp hb
    rw [hb, hP] at b1
    cases b1
    refine ⟨_, by rw [hb, upd_ne (ne_of_none hP nC)]; exact upd_same, ?_, fun p2 cv hc => ?_⟩
    · rw [Array.toList_append]
      exact PySem.TriplesOk_snoc _ _ _ _ b2
    · rw [Array.toList_append] at hc
      rcases LamX.among_app _ b2 hc with z | z
      · obtain ⟨d, e1, e2⟩ := b3 p2 cv z
        exact ⟨d, e1, up e2 (uc e2)⟩
      · exact ⟨c', z, by rw [hq]; exact upd_same⟩
  · refine ⟨qs, up b1 hb, b2, fun p2 cv hc => ?_⟩
    obtain ⟨d, e1, e2⟩ := b3 p2 cv hc
    exact ⟨d, e1, up e2 (uc e2)⟩
section
variable {G : Ga} {F : FT} {k : Nat}
theorem lam_ne {l : LLs} {n : Nat} {r : Nat × CEs} (h : lamAt l n = some r) : l ≠ .nil := fun z => by rw [z] at h; cases h
abbrev anyH : HO := .ext fun _ => True
theorem anyOk {P : Program} {w : World} {H : Hp} {h : Heap} {a : Addr} {o : Obj} (e : h.get? a = some o) : ObjOk P w H h a (.frz o anyH) := ⟨e, trivial, ⟨o, e⟩, fun _ _ _ _ => trivial⟩
theorem se_lam (n : Nat) : SE G F k (.lam n) := SE.of (fun {X e w} c h => by
  obtain ⟨ps, bd, s2, p, f, es, rfl, hna, h2, h3, h4⟩ := inv_lam h
  have L := c.lm (lam_ne h3)
  obtain ⟨cc, P, hcode, TB, hmT, hu⟩ := L.code
  have S := LamX.lamS_by h2
  have e0 := noArgs_eq hna
  refine ⟨fun pins s σ H Q I h' => ?_⟩
  obtain ⟨cs, Av, ρ, st, r, st', ok, cl, en, he, q⟩ := h'
  simp only [evE, Option.some.injEq, Prod.mk.injEq] at he
  obtain ⟨rfl, rfl⟩ := he
  have hcl := closure_ok (S.has I.ok)
  have hdef : defaultsOf ps X.env = ([], []) := by rw [e0]; rfl
  obtain ⟨tb, hP, ht, hco⟩ := ok.tab _ hmT
  have hP1 : s.heap.get? P = some { cls := .none, data := .fields tb } := I.hok P _ hP
  refine PySem.W.kla_eval hdef ?_
  have fin : ∀ {h1 : Heap} {tk : Tok} {H1 : Hp} {c' : Addr} {ctv : Value}, Inv X pins σ H1 { s with heap := h1, toks := tk } → s.heap.objs.size ≤ h1.objs.size → Ext [] H H1 → H1 c' = some (LamX.CodeO c' (X.env.qual ++ "<lambda>")) →
      EP X pins σ Q (.ref h1.objs.size) { s with heap := h1.push (PySem.W.kla_obj "<lambda>" (X.env.qual ++ "<lambda>") ps bd s2 (cloFrom X.env.cells s2.names []) ((X.mg "__name__").getD .none) c' ctv), toks := tk } := fun {h1 tk H1 c' ctv} I1 hz ex hc => by
    have nf : H1 h1.objs.size = none := I1.hok.fresh (Nat.le_refl _)
    have I2 := I1.laid (t' := tk) (a := h1.objs.size) (o := .frz (PySem.W.kla_obj "<lambda>" (X.env.qual ++ "<lambda>") ps bd s2 (cloFrom X.env.cells s2.names []) ((X.mg "__name__").getD .none) c' ctv) anyH) (h' := h1.push (PySem.W.kla_obj "<lambda>" (X.env.qual ++ "<lambda>") ps bd s2 (cloFrom X.env.cells s2.names []) ((X.mg "__name__").getD .none) c' ctv))
      (fun b o z => Heap.get?_push_of_some _ z) (Nat.le_refl _) (anyOk (Heap.get?_push_size _ rfl))
    have ex2 : Ext [] H (upd H1 h1.objs.size (.frz (PySem.W.kla_obj "<lambda>" (X.env.qual ++ "<lambda>") ps bd s2 (cloFrom X.env.cells s2.names []) ((X.mg "__name__").getD .none) c' ctv) anyH)) := ex.trans (Ext.upd nf)
    exact ⟨.ref _, _, I2, rfl, q _ _ ex2.all (cl.ext ok ex2) (.vv (.clo ((L.z _ _ _ _).mpr ⟨rfl, ps, bd, s2, _, _, f, es, rfl, h3, h4, S, hna⟩) upd_same (by rw [upd_ne (ne_of_none hc nf)]; exact hc)))⟩
  cases ha : codeAmong p tb.toList with
  | none =>
    refine PySem.W.kla_makeFunction (mg := X.mg) (c := cc) (P := P) (ps := tb) hcl I.ok.glob (I.mod.glob.keeps I.bk) hcode (TB.code.keeps I.bk) hP1 ht ha TB.gP (TB.bm.keeps I.bk) fun c' ctv h1 tk hx hge hlt hrec htb => ?_
    obtain ⟨c2, oc, vs, t, e2, hoc, hd, hv⟩ := hrec
    cases e2
    have nC : H c' = none := I.hok.fresh hge
    have I1 := LamX.inv_table (t' := tk) (more := #[rawInt p.line, rawInt p.col, .ref c']) (h' := h1) I hP (fun b o hb z => hx b o hb z) htb hge ⟨oc, vs, t, hoc, hd, hv⟩
    refine fin I1 (Nat.le_trans hge (Nat.le_of_lt hlt)) ⟨fun b o z _ nt => ?_, fun b qs z => ?_, fun t => tabs_new t hP hu nC⟩ upd_same
    · rw [upd_ne (ne_of_none z nC), upd_ne (fun y => by rw [y, hP] at z; exact nt _ (Option.some.inj z).symm)]
      exact z
    · by_cases hb : b = P
      · exact ⟨_, by rw [hb, upd_ne (ne_of_none hP nC)]; exact upd_same⟩
      · exact ⟨qs, by rw [upd_ne (ne_of_none z nC), upd_ne hb]; exact z⟩
  | some cv =>
    obtain ⟨c', e, hc⟩ := hco p cv ha
    subst e
    exact PySem.W.kla_makeFunctionHit (mg := X.mg) (c := cc) (P := P) (ps := tb) hcl I.ok.glob (I.mod.glob.keeps I.bk) hcode (TB.code.keeps I.bk) hP1 ht ha (TB.bm.keeps I.bk) fun ctv h1 tk hx hz => fin (I.kept hx) hz (Ext.refl _ _) hc) (fun h => by obtain ⟨ps, bd, s2, p, f, es, rfl, _⟩ := inv_lam h; exact ⟨rfl, rfl⟩)

/-! ### plain data needs no cells, no closures -/
theorem rps_scal {Z2 : Unit → Zc} {K : PySem.W.Frag} {cs cs2 : List Addr} {Av : Addr → Prop} {H : Hp} : ∀ {vs : List V} {ds : List D}, Rps K cs Av H vs ds → ds.all purV = true → @Rps (Z2 ()) K cs2 Av H vs ds
  | _, _, .nil, _ => @Rps.nil (Z2 ()) _ _ _ _
  | _, _, .cons r t, h => by
    rw [List.all_cons, Bool.and_eq_true] at h
    refine @Rps.cons (Z2 ()) _ _ _ _ _ _ _ _ ?_ (rps_scal (Z2 := Z2) t h.2)
    cases r with
    | non => exact @Rp.non (Z2 ()) _ _ _ _
    | bl b => exact @Rp.bl (Z2 ()) _ _ _ _ b
    | int i => exact @Rp.int (Z2 ()) _ _ _ _ i
    | str x => exact @Rp.str (Z2 ()) _ _ _ _ x
    | _ => exact absurd h.1 (by simp [purV])
theorem zip_vals {ks : List L2.Key} : ∀ {ds : List D}, ks.length = ds.length → (((ks.zip ds).map fun p => (kD p.1, p.2)).all fun p => purK p.1 && purV p.2) = true → ds.all purV = true := by
  induction ks with
  | nil => intro ds h _; cases ds with
    | nil => rfl
    | cons _ _ => cases h
  | cons k ks ih =>
    intro ds h h2
    cases ds with
    | nil => rfl
    | cons d ds =>
      simp only [List.zip_cons_cons, List.map_cons, List.all_cons, Bool.and_eq_true] at h2 ⊢
      exact ⟨h2.1.2, ih (by simpa using h) h2.2⟩
mutual
theorem Rp.pur {Z2 : Unit → Zc} {K : PySem.W.Frag} {cs cs2 : List Addr} {Av : Addr → Prop} {H : Hp} : ∀ {v : V} {d : D}, Rp K cs Av H v d → pur d = true → @Rp (Z2 ()) K cs2 Av H v d
  | _, _, .non, _ => @Rp.non (Z2 ()) _ _ _ _
  | _, _, .bl b, _ => @Rp.bl (Z2 ()) _ _ _ _ b
  | _, _, .int i, _ => @Rp.int (Z2 ()) _ _ _ _ i
  | _, _, .str x, _ => @Rp.str (Z2 ()) _ _ _ _ x
  | _, _, .lst na h r, p => @Rp.lst (Z2 ()) _ _ _ _ _ _ _ na h (Rps.pur (Z2 := Z2) r (by simpa only [Ev.pur] using p))
  | _, _, .tup h r, p => @Rp.tup (Z2 ()) _ _ _ _ _ _ _ h (Rps.pur (Z2 := Z2) r (by simpa only [Ev.pur] using p))
  | _, _, .cell _, p => by simp [Ev.pur, purK] at p
  | _, _, .dct h h0 hl r hk, p => by
    subst hk
    exact @Rp.dct (Z2 ()) _ _ _ _ _ _ _ _ _ h h0 hl (rps_scal (Z2 := Z2) r (zip_vals hl (by simpa only [Ev.pur] using p))) rfl
  | _, _, .dct0 h, _ => @Rp.dct0 (Z2 ()) _ _ _ _ _ h
  | _, _, .exc .., p => by simp [Ev.pur, purK] at p
  | _, _, .clo .., p => by simp [Ev.pur, purK] at p
theorem Rps.pur {Z2 : Unit → Zc} {K : PySem.W.Frag} {cs cs2 : List Addr} {Av : Addr → Prop} {H : Hp} : ∀ {vs : List V} {ds : List D}, Rps K cs Av H vs ds → purs ds = true → @Rps (Z2 ()) K cs2 Av H vs ds
  | _, _, .nil, _ => @Rps.nil (Z2 ()) _ _ _ _
  | _, _, .cons r t, p => by
    simp only [purs, Bool.and_eq_true] at p
    exact @Rps.cons (Z2 ()) _ _ _ _ _ _ _ _ (Rp.pur (Z2 := Z2) r p.1) (Rps.pur (Z2 := Z2) t p.2)
end
theorem En.pur {K : PySem.W.Frag} {cs : List Addr} {Av : Addr → Prop} {H : Hp} {σ : L2.St} {ρ : Rho} (en : En K cs Av H σ ρ) : En K [] Av H σ (hideC ρ) := by
  refine ⟨by rw [en.len]; simp [hideC], fun i => ?_⟩
  have z := en.at_ i
  unfold hideC
  rw [List.getElem?_map]
  match h : ρ[i]? with
  | none => trivial
  | some none => trivial
  | some (some (.o ds)) => trivial
  | some (some (.v d)) =>
    rw [h] at z
    obtain ⟨x, h1, h2⟩ := z
    show SlotOk K [] Av H _ (some (purO (some (.v d))))
    unfold purO
    dsimp only
    split
    · rename_i hp
      exact ⟨x, h1, Rp.pur (Z2 := fun _ => inferInstance) h2 hp⟩
    · trivial
mutual
theorem Rp.nc {K : PySem.W.Frag} {cs : List Addr} {Av : Addr → Prop} {H : Hp} : ∀ {v : V} {d : D}, Rp K [] Av H v d → Rp K cs Av H v d
  | _, _, .non => .non
  | _, _, .bl b => .bl b
  | _, _, .int i => .int i
  | _, _, .str x => .str x
  | _, _, .lst na h r => .lst na h (Rps.nc r)
  | _, _, .tup h r => .tup h (Rps.nc r)
  | _, _, .cell h => by simp at h
  | _, _, .dct h h0 hl r hk => .dct h h0 hl (Rps.nc r) hk
  | _, _, .dct0 h => .dct0 h
  | _, _, .exc hc h0 h1 h2 h3 h4 r => .exc hc h0 h1 h2 h3 h4 (Rp.nc r)
  | _, _, .clo hz h0 hc => .clo hz h0 hc
theorem Rps.nc {K : PySem.W.Frag} {cs : List Addr} {Av : Addr → Prop} {H : Hp} : ∀ {vs : List V} {ds : List D}, Rps K [] Av H vs ds → Rps K cs Av H vs ds
  | _, _, .nil => .nil
  | _, _, .cons r t => .cons (Rp.nc r) (Rps.nc t)
end
theorem Cl.nil {K : PySem.W.Frag} {Av : Addr → Prop} {H : Hp} : Cl K [] Av H [] := ⟨rfl, List.nodup_nil, fun n a ds h => by simp at h⟩
theorem Cl.nil_eq {K : PySem.W.Frag} {Av : Addr → Prop} {H : Hp} {st : Sto} (c : Cl K [] Av H st) : st = [] := List.eq_nil_of_length_eq_zero c.len.symm
theorem AvOk.nc {cs : List Addr} {Av : Addr → Prop} {H : Hp} (ok : AvOk cs Av H) : AvOk [] Av H := ⟨fun a h => by simp at h, ok.lst, ok.tab⟩

/-! ### what a closure is called with needs no calls -/
mutual
theorem sck_F {G : Ga} {sc : Scope} {F F' : FT} : ∀ {ce : CE} {e : Expr} {ρ : Rho} {st : Sto}, sckE G sc ce e = true → evE F ce ρ st = evE F' ce ρ st
  | .var i, e, ρ, st, h => by simp only [evE]
  | .con d, e, ρ, st, h => by simp only [evE]
  | .gl y d, e, ρ, st, h => by simp only [evE]
  | .neg a, e, ρ, st, h => by
    cases e
    case UnaryOp o l p =>
      cases o
      case USub =>
        have e1 := sck_F (F := F) (F' := F') (ρ := ρ) (st := st) (ce := a) (e := l) h
        simp only [evE, e1]
      all_goals (simp [sckE] at h)
    all_goals (simp [sckE] at h)
  | .tup es, e, ρ, st, h => by
    cases e
    case Tuple l k p =>
      have e1 := scks_F (F := F) (F' := F') (ρ := ρ) (st := st) (es := es) (l := l) h
      simp only [evE, e1]
    all_goals (simp [sckE] at h)
  | .peek .., e, _, _, h | .lst .., e, _, _, h | .bin .., e, _, _, h | .cmp .., e, _, _, h | .chain .., e, _, _, h | .and .., e, _, _, h | .or .., e, _, _, h | .one .., e, _, _, h | .not .., e, _, _, h | .ite .., e, _, _, h | .sub .., e, _, _, h | .sl .., e, _, _, h | .rev .., e, _, _, h | .call .., e, _, _, h | .callk .., e, _, _, h | .blt .., e, _, _, h | .isi .., e, _, _, h | .meth .., e, _, _, h | .lrng .., e, _, _, h | .trng .., e, _, _, h | .comp .., e, _, _, h | .comp2 .., e, _, _, h | .cnt .., e, _, _, h | .idx .., e, _, _, h | .sset .., e, _, _, h | .dlit .., e, _, _, h | .dlitI .., e, _, _, h | .dget .., e, _, _, h | .lam .., e, _, _, h | .cc .., e, _, _, h | .excIs .., e, _, _, h | .excVal .., e, _, _, h => by cases e <;> simp [sckE] at h
theorem scks_F {G : Ga} {sc : Scope} {F F' : FT} : ∀ {es : CEs} {l : List Expr} {ρ : Rho} {st : Sto}, sckEs G sc es l = true → evEs F es ρ st = evEs F' es ρ st
  | .nil, l, ρ, st, h => by simp only [evEs]
  | .cons true a r, l, ρ, st, h => by cases l <;> simp [sckEs] at h
  | .cons false a r, l, ρ, st, h => by
    cases l with
    | nil => simp [sckEs] at h
    | cons e es =>
      simp only [sckEs, Bool.and_eq_true] at h
      have e1 := sck_F (F := F) (F' := F') (ρ := ρ) (st := st) h.1.2
      have e2 : ∀ st, evEs F r ρ st = evEs F' r ρ st := fun st => scks_F (st := st) h.2
      simp only [evEs, e1, e2]
end
abbrev F00 : FT := fun _ _ _ => none
theorem GdX.zero {P : Program} {w : World} {K : PySem.W.Frag} {mg : Str → Option Value} {base : Heap} {j : Nat} (g : GdX P w K mg base G F k) : GdX P w K mg base G F00 j := by
  refine ⟨⟨g.g.blt, g.g.cn, fun f x h => ?_⟩, g.eq, g.er, fun f x h => ?_, fun f x h => ?_, fun f x h => ?_, fun f x h => ?_, fun f x ds r _ h => by cases h⟩
  · obtain ⟨a, fd, ps, h1, h2, h3, h4, h5, h6⟩ := g.g.fn f x h
    exact ⟨a, fd, ps, h1, h2, ⟨fun vs H Q E z => z.1, fun A o s H ar us vs Q E _ _ _ _ _ z => by obtain ⟨_, _, _, _, _, _, _, _, _, _, e, _⟩ := z; cases e⟩, h4, (fun ds st r z => by have z : (none : Option (RV × Sto)) = some r := z; cases z), h6⟩
  · obtain ⟨a, fd, ps, h1, h2, h3, h4, h5, h6⟩ := g.fx f x h
    exact ⟨a, fd, ps, h1, h2, ⟨fun vs H Q E z => z.1, fun A o s H ar us vs Q E _ _ _ _ _ z => by obtain ⟨_, _, _, _, _, _, _, _, _, _, _, e, _⟩ := z; cases e⟩, h4, (fun ds st r z => by have z : (none : Option (RV × Sto)) = some r := z; cases z), h6⟩
  · obtain ⟨a, fd, ps, h1, h2, h3, h4, h5⟩ := g.cl f x h
    exact ⟨a, fd, ps, h1, h2, ⟨fun vs H Q E z => z.1, fun A o s H ar us vs Q E _ _ _ _ _ z => by obtain ⟨_, _, _, _, _, _, _, e, _⟩ := z; cases e⟩, h4, fun ds st r z => by cases z⟩
  · obtain ⟨a, fd, ps, h1, h2, h3, h4, h5⟩ := g.fc f x h
    exact ⟨a, fd, ps, h1, h2, ⟨fun A o s H ar f us vs Q j cs Av oc ds st r st' _ _ _ _ _ _ _ _ _ _ _ e => by cases e⟩, h4, fun ds st r z => by cases z⟩
  · obtain ⟨a, fd, ps, h1, h2, h3, h4, h5⟩ := g.fd f x h
    exact ⟨a, fd, ps, h1, h2, ⟨fun A o s H ar f us vs Q j cs Av oc ds st r st' _ _ _ _ _ _ _ _ _ _ _ e => by cases e⟩, h4, fun ds st r z => by cases z⟩

/-! ### a closure's promise -/
mutual
theorem smE (G : Ga) (F : FT) (k : Nat) {G' : Ga} {sc : Scope} : ∀ {ce : CE} {e : Expr}, sckE G' sc ce e = true → SE G F k ce
  | .var i, e, h => se_var i
  | .con d, e, h => se_con d
  | .gl y d, e, h => se_gl y d
  | .neg a, e, h => by
    cases e
    case UnaryOp o l p =>
      cases o
      case USub => exact se_neg (smE G F k (ce := a) (e := l) h)
      all_goals (simp [sckE] at h)
    all_goals (simp [sckE] at h)
  | .tup es, e, h => by
    cases e
    case Tuple l kk p => exact se_tup (smEs G F k (es := es) (l := l) h)
    all_goals (simp [sckE] at h)
  | .peek .., e, h | .lst .., e, h | .bin .., e, h | .cmp .., e, h | .chain .., e, h | .and .., e, h | .or .., e, h | .one .., e, h | .not .., e, h | .ite .., e, h | .sub .., e, h | .sl .., e, h | .rev .., e, h | .call .., e, h | .callk .., e, h | .blt .., e, h | .isi .., e, h | .meth .., e, h | .lrng .., e, h | .trng .., e, h | .comp .., e, h | .comp2 .., e, h | .cnt .., e, h | .idx .., e, h | .sset .., e, h | .dlit .., e, h | .dlitI .., e, h | .dget .., e, h | .lam .., e, h | .cc .., e, h | .excIs .., e, h | .excVal .., e, h => by cases e <;> simp [sckE] at h
theorem smEs (G : Ga) (F : FT) (k : Nat) {G' : Ga} {sc : Scope} : ∀ {es : CEs} {l : List Expr}, sckEs G' sc es l = true → SEs G F k es
  | .nil, l, h => ses_nil
  | .cons true a r, l, h => by cases l <;> simp [sckEs] at h
  | .cons false a r, l, h => by
    cases l with
    | nil => simp [sckEs] at h
    | cons e es =>
      simp only [sckEs, Bool.and_eq_true] at h
      exact ses_cons (smE G F k h.1.2) (smEs G F k h.2)
end
theorem evL_some {n : Nat} {ρ : Rho} {st : Sto} {od : D} : ∀ {l : LLs}, evL F l n ρ st = some od → ∃ f es ds st1 st2, lamAt l n = some (f, es) ∧ evEs F es (hideC ρ) [] = some (ds, st1) ∧ F (f + 5 * B0) ds [] = some (.v od, st2)
  | .nil, h => by simp [evL] at h
  | .cons m f es r, h => by
    simp only [evL] at h
    by_cases hm : m = n
    · rw [if_pos hm] at h
      split at h
      · rename_i ds st1 e1
        split at h
        · rename_i o st2 e2
          cases h
          exact ⟨f, es, ds, st1, _, by simp [lamAt, hm], e1, e2⟩
        · cases h
      · cases h
    · rw [if_neg hm] at h
      obtain ⟨f', es', ds, st1, st2, h1, h2, h3⟩ := evL_some h
      exact ⟨f', es', ds, st1, st2, by simp only [lamAt, if_neg hm]; exact h1, h2, h3⟩
theorem clo_clp {X : Cx} {K0 : PySem.W.Frag} (c : Cd G F k X) {pins : List (Addr × Obj)} {σ : L2.St} {H : Hp} {s : Shared} {cs : List Addr} {Av : Addr → Prop} {ρ : Rho} {st : Sto} {f c' : Addr} {ob : Obj} {u : HO} {n : Nat} {q : Str} {od : D}
    (I : Inv X pins σ H s) (ok : AvOk cs Av H) (en : En K0 cs Av H σ ρ) (hK : K0 = X.K) (hz : Zc.z ob n c' q) (hf : H f = some (.frz ob u)) (hc : H c' = some (LamX.CodeO c' q)) (he : evL F G.lam n ρ st = some od) :
    5 ≤ k ∧ ∃ o : Oc, od = o.d ∧ ClP X.prog X.w X.K X.mg X.base (k - 3) X.stack s H Av f o := by
  subst hK
  obtain ⟨fn, es, ds, st1, st2, hl, e1, e2⟩ := evL_some he
  have L := c.lm (lam_ne hl)
  obtain ⟨rfl, ps, bd, s2, pm, ctv, fn', es', rfl, hl', hb, S, hna⟩ := (L.z _ _ _ _).mp hz
  rw [hl] at hl'
  cases hl'
  match bd, hb with
  | .Call (.Name x px) (y :: l) [] pp, hb =>
    have hb : (fnIs G fn x && isGl s2 x && okN x && sckEs G.nl s2 es (y :: l)) = true := hb
    simp only [Bool.and_eq_true] at hb
    obtain ⟨⟨⟨h1, h2⟩, h3⟩, h4⟩ := hb
    have hfn : G.fn.lookup fn = some x := by
      unfold fnIs at h1
      split at h1
      · rename_i z hz; rw [hz, eq_of_beq h1]
      · cases h1
    obtain ⟨hk, o, ho⟩ := c.gx.kk fn x ds _ hfn e2
    cases ho
    refine ⟨hk, o, rfl, ⟨⟨_, u, hf, fun h z => ⟨_, _, _, _, z⟩⟩, fun A out s' H' Q E hr hg e0 un ok' ex hoc => ?_⟩⟩
    obtain ⟨a, fd, pn, hm, hkp, FX, hbi, hlen⟩ := c.gx.cl fn x hfn
    obtain ⟨of1, _⟩ := e0.hok f _ (un.frzs f _ _ hf)
    obtain ⟨⟨oc, vs, t, hoc1, hdc, hvc⟩, _, _⟩ := e0.hok c' _ (ex.k c' _ hc (by simp) LamX.codeO_ne)
    have n0 := noArgs_eq hna
    subst n0
    refine PySem.W.kla_callFunE hr.depth of1 rfl S.co S.gen rfl ⟨c', oc, vs, t, rfl, hoc1, hdc, hvc⟩ ?_
    refine wpAny_of_eq (a := ([] : List (Str × Value))) rfl ?_
    have nl : s'.heap.NoLimit := e0.mod.nolimit.keeps fun b o e => (e0.bs b o e).1
    refine wpAny_newFunctionEnv (fun y hy => (S.own y hy).2) (fun y hy => absurd hy (by simp)) (fun h₁ hns hsb => ⟨nl.fresh _ hsb, ?_⟩) S.kind
    show codeAny _ _ (.expr _ (LamX.lamEnv X s2 s'.heap.objs.size f c')) _ _
    have kp : ∀ b o, s'.heap.get? b = some o → h₁.get? b = some o := fun b o e => hsb.extBut b o (Nat.ne_of_lt (Heap.lt_size e)) (Heap.get?_push_of_some _ e)
    have hJ : Inv (LamX.lamCx X A out s' H' E s2 f c') [] σ H' { s' with heap := h₁, toks := s'.toks + ([] : List (Str × Value)).length } := LamX.lam_start2 I S e0 hr.hd un hns kp
    have hr1 : Room (k - 4) (A.deeper (LamX.lamEnv X s2 s'.heap.objs.size f c')) := by
      have : k - 3 = (k - 4) + 1 := by omega
      rw [this] at hr
      exact hr.deeper _
    have cL : Cd G.nl F00 (k - 4) (LamX.lamCx X A out s' H' E s2 f c') := ⟨c.N, rfl, hg, hr1, c.nd, c.gx.nl.zero, fun z => absurd rfl z⟩
    have pa := (smEs G.nl F00 (k - 4) h4).p cL (scks_as (G := G.nl) h4)
    have enL : En X.K [] Av H' σ (hideC ρ) := en.pur.ext ok.nc ex
    have e1' : evEs F00 es (hideC ρ) [] = some (ds, st1) := by rw [← scks_F (F := F) (F' := F00) h4]; exact e1
    have pos := pp
    refine PySem.W.kla_codeExpr (wpAny_mono ?_ (fun v s'' hq => hq) fun e s'' hq => hq)
    refine wpAny_Call_Name_kw (ld_glob hJ (isGl_of h2) hm ?_ (okN_of h3).1)
    refine PySem.W.callWith_K (h₀ := X.base) hJ.ok.mod.kin hkp (thn (pa.run pp [] _ σ H' (fun vs H1 => Ext [] H' H1 ∧ AvOk [] Av H1 ∧ Rps X.K [] Av H1 vs ds) hJ ⟨[], Av, hideC ρ, [], ds, st1, ok', Cl.nil, enL, e1', fun vs H1 x1 c1 rs => ⟨x1, ok'.ext x1 c1, rs⟩⟩) fun us s1 ⟨vs, H1, I1, rv, x1, ok1, rs⟩ => ⟨I1.kIn, ?_⟩) (chkAs_hd (scks_as (G := G.nl) h4) _ pp).1 (chkAs_hd (scks_as (G := G.nl) h4) _ pp).2
    have hl2 : vs.length = pn.length := by rw [rs.length]; exact hlen _ _ _ e2
    have hl3 : us.length = pn.length := by rw [← rv.length]; exact hl2
    have hb' := hbi s1 us I1.kIn (by simpa using hl3)
    rw [List.append_nil] at hb'
    have tk : Takes (LamX.lamCx X A out s' H' E s2 f c') (fun cls d _ H => E cls d H) := takes_of (E := E) rfl rfl rfl rfl
    refine wpAny_call (codeAny_mono (FX.run _ (LamX.lamCx X A out s' H' E s2 f c').stack s1 H1 ⟨us, []⟩ us vs Q E hr1 hg I1.env0 hb' rv ⟨hl2, Av, ds, o, st2, ok1, rs, e2, ?_⟩) fun r s2' hq => ?_)
    · cases o with
      | val d => exact fun v H2 x2 r2 => hoc v H2 (x1.trans x2) r2
      | exc c d => exact fun dd v H2 x2 he h2 r2 => hoc dd v H2 (x1.trans x2) he h2 r2
    · cases r with
      | error e => exact passes_call tk (fun _ _ _ _ h => h) [] σ H1 s1 e s2' I1 hq
      | ok fl =>
        cases fl with
        | ret u =>
          obtain ⟨v, H2, I2, rv2, q2⟩ := I1.after (Q := Q) hq
          exact ⟨v, H2, I2.os, I2.bare, I2.base, I2.hok, rv2, q2⟩
        | next => exact False.elim hq
        | brk => exact False.elim hq
        | cont => exact False.elim hq
theorem inv_cc {g : Nat} {a : CE} {es : CEs} {ls : LLs} {sc : Scope} {e : Expr} {w : Bool} (h : chkE G sc w (.cc g a es ls) e = true) : ∃ x px y l p, e = .Call (.Name x px) (y :: l) [] p ∧ ls = G.lam ∧ fcIs G g x = true ∧ isGl sc x = true ∧ okN x = true ∧ chkAs G sc false (.cons false a es) (y :: l) = true := by
  cases e
  case Call fn as ks p =>
    cases fn
    case Name x px =>
      match as, ks, h with
      | y :: l, [], h =>
        have h1 : (!isNilL G.lam && leq ls G.lam && fcIs G g x && isGl sc x && okN x && plainE y && chkE G sc false a y && chkAs G sc false es l) = true := h
        simp only [Bool.and_eq_true] at h1
        obtain ⟨⟨⟨⟨⟨⟨⟨_, h2⟩, h3⟩, h4⟩, h5⟩, h6⟩, h7⟩, h8⟩ := h1
        exact ⟨x, px, y, l, p, rfl, leq_eq h2, h3, h4, h5, by simp only [chkAs, Bool.and_eq_true]; exact ⟨⟨h6, h7⟩, h8⟩⟩
      | [], _, h => exact ff h
      | _ :: _, _ :: _, h => exact ff h
    all_goals exact ff h
  all_goals exact ff h
theorem fc_get {X : Cx} (c : Cd G F k X) {g : Nat} {x : Str} (h : fcIs G g x = true) : ∃ dl a fd ps, dl ≤ 2 ∧ X.mg x = some (.ref a) ∧ PySem.W.keepIn X.K (.ref a) = true ∧ FnC X.prog X.w X.K X.mg X.base dl k a fd ps (F g) ∧ Binds X.K fd ps [] ∧ (∀ ds st r, F g ds st = some r → ds.length = ps.length) := by
  unfold fcIs at h
  rw [Bool.or_eq_true] at h
  rcases h with h | h
  · split at h
    · rename_i z hz
      obtain ⟨a, fd, ps, h1, h2, h3, h4, h5⟩ := c.gx.fc g x (by rw [hz, eq_of_beq h])
      exact ⟨1, a, fd, ps, by omega, h1, h2, h3, h4, h5⟩
    · cases h
  · split at h
    · rename_i z hz
      obtain ⟨a, fd, ps, h1, h2, h3, h4, h5⟩ := c.gx.fd g x (by rw [hz, eq_of_beq h])
      exact ⟨2, a, fd, ps, by omega, h1, h2, h3, h4, h5⟩
    · cases h
theorem cloOf_eq {d : D} {n : Nat} (h : cloOf d = some n) : ∃ m : Int, d = .dict [(.none, .list [.int m])] ∧ n = m.toNat := by
  unfold cloOf at h
  split at h
  · cases h; exact ⟨_, rfl, rfl⟩
  · cases h
theorem dct_ne2 {p : Prop} {x : D} {ks : List L2.Key} {ds : List D} (h : [(PyData.none, x)] = (ks.zip ds).map fun p => (kD p.1, p.2)) : p := by
  cases z : ks.zip ds with
  | nil => rw [z] at h; cases h
  | cons a r =>
    rw [z] at h
    obtain ⟨kk, d⟩ := a
    cases kk <;> cases h
theorem se_cc {g : Nat} {a : CE} {es : CEs} {ls : LLs} (hs : SEs G F k (.cons false a es)) : SE G F k (.cc g a es ls) := SE.of (fun {X e w} c h => by
  obtain ⟨x, px, y, l, p, rfl, rfl, h1, h2, h3, h4⟩ := inv_cc h
  obtain ⟨dl, fa, fd, ps, hdl, hm, hk, FC, hb, hn⟩ := fc_get c h1
  refine ⟨fun pins s σ H Q I ⟨cs, Av, ρ, st, r, st', ok, cl, en, he, q⟩ => ?_⟩
  simp only [evE] at he
  split at he
  case h_2 => cases he
  rename_i xa st1 e1
  split at he
  case h_2 => cases he
  rename_i ds st2 e2
  split at he
  case h_2 => cases he
  rename_i n hn1
  split at he
  case h_2 => cases he
  rename_i od e3
  obtain ⟨m, hx, rfl⟩ := cloOf_eq hn1
  have e4 : evEs F (.cons false a es) ρ st = some (xa.d :: ds, st2) := by simp only [evEs, e1, e2]
  refine wpAny_Call_Name_kw (ld_glob I (isGl_of h2) hm ?_ (okN_of h3).1)
  refine PySem.W.callWith_K (h₀ := X.base) I.ok.mod.kin hk (thn ((hs.p c h4).run p pins s σ H (fun vs H1 => Ext cs H H1 ∧ Cl X.K cs Av H1 st2 ∧ Rps X.K cs Av H1 vs (xa.d :: ds)) I ⟨cs, Av, ρ, st, _, st2, ok, cl, en, e4, fun vs H1 x1 c1 rs => ⟨x1, c1, rs⟩⟩) fun us s1 ⟨vs, H1, I1, rv, x1, c1, rs⟩ => ⟨I1.kIn, ?_⟩) (chkAs_hd h4 _ p).1 (chkAs_hd h4 _ p).2
  have ok1 := ok.ext x1 c1
  have en1 := en.ext ok x1
  rw [hx] at rs
  match vs, us, rs, rv with
  | v0 :: vs, u0 :: us, .cons r0 rs2, .cons rv0 rv2 =>
    cases r0 with
    | dct _ _ _ _ hk => exact dct_ne2 hk
    | @clo f c' ob u n qq hz hf hc =>
      cases (show u0 = Value.ref f from rv0)
      obtain ⟨h5, o, rfl, P⟩ := clo_clp c I1 ok1 en1 rfl hz hf hc (n := n) (by simpa using e3)
      have hl : (o.d :: ds).length = ps.length := hn _ _ _ he
      have hl2 : vs.length + 1 = ps.length := by rw [rs2.length]; simpa using hl
      have hl3 : (Value.ref f :: us).length = ps.length := by rw [List.length_cons, ← rv2.length]; exact hl2
      have hb' := hb s1 (Value.ref f :: us) I1.kIn (by simpa using hl3)
      rw [List.append_nil] at hb'
      show wpAny _ _ (call (.ref fa) (Value.ref f :: us)) _ _ _
      refine wpAny_call (codeAny_mono (FC.run X.A X.stack s1 H1 ⟨Value.ref f :: us, []⟩ f us vs Q (k - 3) cs Av o ds st2 r st' c.rm c.gd I1.env0 hb' rv2 (by omega) P hl2 ok1 c1 rs2 he fun v H2 x2 c2 r2 => q v H2 (x1.trans x2) c2 (r2.old x1 ok1)) fun r s2' hq => ?_)
      cases r with
      | error e => exact hq.elim
      | ok fl =>
        cases fl with
        | ret u => exact I1.after hq
        | next => exact False.elim hq
        | brk => exact False.elim hq
        | cont => exact False.elim hq) (fun h => by obtain ⟨x, px, y, l, p, rfl, _⟩ := inv_cc h; exact ⟨rfl, rfl⟩)

/-! ### a caught error is looked at -/
theorem excIs1_eq {x : Str} {d : D} {b : Bool} (h : excIs1 x d = some b) : (d = .none ∧ b = false) ∨ ∃ c e, d = excD c e ∧ b = (c == x) := by
  unfold excIs1 at h
  split at h
  · cases h; exact .inl ⟨rfl, rfl⟩
  · cases h; exact .inr ⟨_, _, rfl, rfl⟩
  · cases h
theorem excVal1_eq {d e : D} (h : excVal1 d = some e) : ∃ c, d = excD c e := by
  unfold excVal1 at h
  split at h
  · cases h; exact ⟨_, rfl⟩
  · cases h
theorem Rw.exc {K : PySem.W.Frag} {cs : List Addr} {Av : Addr → Prop} {H : Hp} {v : V} {c : Str} {d : D} (h : Rw K cs Av H v (excD c d)) : ∃ a dd o u w, v = .ref a ∧ c ∈ Zc.er ∧ H a = some (.frz o u) ∧ o.cls = .ref (He.ga K c) ∧ o.dict = some dd ∧ (∃ vs, o.data = .fields vs) ∧ H dd = some (.xd [("value", w)]) ∧ Rp K cs Av H w d := by
  rcases h with h | ⟨_, _, _, _, e, _⟩
  · unfold excD at h
    cases h with
    | dct _ _ _ _ hk => exact dct_ne2 hk
    | exc hc h0 h1 h2 h3 h4 r => exact ⟨_, _, _, _, _, rfl, hc, h0, h1, h2, h3, h4, r⟩
  · cases e
theorem exc_inst {X : Cx} {pins : List (Addr × Obj)} {σ : L2.St} {H : Hp} {s : Shared} (I : Inv X pins σ H s) {a dd C : Addr} {o : Obj} {u : HO} {w : V} (h0 : H a = some (.frz o u)) (h1 : o.cls = .ref C) (h2 : o.dict = some dd) (h3 : ∃ vs, o.data = .fields vs) (h4 : H dd = some (.xd [("value", w)])) :
    ∃ od uv, PySem.W.InstAt s.heap a o C (some od) ∧ L2.RelV w uv ∧ (PySem.W.hasDictIn X.K C = true → PySem.W.findIn X.K (.ref C) "value" = some none → PySem.W.findObj X.K C (some od) "value" = some (.value uv)) := by
  obtain ⟨g0, _⟩ := I.hok a _ h0
  obtain ⟨mA, hns, hr⟩ : ∃ mA, s.heap.Ns1 dd mA ∧ ∀ f, RelO (([("value", w)] : List (Str × V)).lookup f) (mA f) := I.hok dd _ h4
  obtain ⟨od, ho, hl⟩ := lookIn_ns hns
  obtain ⟨uv, hu, ru⟩ := RelO.some_of (v := w) (o := mA "value") (by have z := hr "value"; simpa [List.lookup] using z)
  obtain ⟨vs, hd⟩ := h3
  exact ⟨od, uv, ⟨g0, h1, by unfold PySem.W.notCls; rw [hd] <;> rfl, by rw [h2]; exact ho⟩, ru, fun hd2 hno => PySem.W.findObj_own hd2 hno rfl (by rw [hl, hu])⟩
/-- isinstance(e, C), e None or a caught error -/
def rIsX (K : PySem.W.Frag) : List V → Hp → VK → Prop := fun xs H Q => ∃ (x : V) (C : Addr) (b : Bool), xs = [x, .ref C] ∧ ((x = .non ∧ PySem.W.kitOne K (.type "NoneType") (.ref C) = some b) ∨
  ∃ a dd D o u w, x = .ref a ∧ H a = some (.frz o u) ∧ o.cls = .ref D ∧ o.dict = some dd ∧ (∃ vs, o.data = .fields vs) ∧ H dd = some (.xd [("value", w)]) ∧ ExcC K D ∧ PySem.W.kitOne K (.ref D) (.ref C) = some b) ∧ Q (.bl b) H
theorem call_isX {X : Cx} : CallR X (.builtin "isinstance") (rIsX X.K) := by
  intro pins s σ H xs us Q I r h
  obtain ⟨x, C, b, rfl, h, q⟩ := h
  obtain ⟨u1, u2, rfl, r1, r2⟩ := vals2 r
  cases (show u2 = Value.ref C from r2)
  rcases h with ⟨rfl, e⟩ | ⟨a, dd, D, o, u, w, rfl, h0, h1, h2, h3, h4, T, e⟩
  · cases (show u1 = Value.none from r1)
    exact PySem.W.kia_one PySem.W.kitx_none I.kIn True.intro e (fun z => nomatch z) fun tk => ⟨.bl b, H, I.tok tk, rfl, q⟩
  · cases (show u1 = Value.ref a from r1)
    obtain ⟨od, uv, J, _⟩ := exc_inst I h0 h1 h2 h3 h4
    have hcl : (PySem.W.clsIn X.K D).isSome = true := by
      obtain ⟨cd, hc, _⟩ := PySem.W.any_some T.hd
      rw [hc]; rfl
    exact PySem.W.kia_one (PySem.W.kitx_exc hcl T.hg T.hk T.hs T.ha T.hn T.ht T.hm) I.kIn J e (fun z => nomatch z) fun tk => ⟨.bl b, H, I.tok tk, rfl, q⟩
theorem inv_excIs {x : Str} {a : CE} {sc : Scope} {e : Expr} {w : Bool} (h : chkE G sc w (.excIs x a) e = true) : ∃ px y py p, e = .Call (.Name "isinstance" px) [y, .Name x py] [] p ∧ isGl sc "isinstance" = true ∧ isGl sc x = true ∧ okN x = true ∧ x ∈ G.er ∧ plainE y = true ∧ chkE G sc true a y = true := by
  cases e
  case Call fn as ks p =>
    cases fn
    case Name z px =>
      match as, ks, h with
      | [], _, h => exact ff h
      | [_], ks, h => cases ks <;> exact ff h
      | _ :: y2 :: _ :: _, ks, h => cases y2 <;> cases ks <;> exact ff h
      | [_, y2], _ :: _, h => cases y2 <;> exact ff h
      | [_, y2], [], h =>
        cases y2
        case Name z2 py =>
          rename_i y
          have h1 : (z == ("isinstance" : Str) && isGl sc z && z2 == x && isGl sc z2 && okN z2 && G.er.contains x && plainE y && chkE G sc true a y) = true := h
          simp only [Bool.and_eq_true] at h1
          obtain ⟨⟨⟨⟨⟨⟨⟨h1, h2⟩, h3⟩, h4⟩, h5⟩, h6⟩, h7⟩, h8⟩ := h1
          obtain rfl := eq_of_beq h1
          obtain rfl := eq_of_beq h3
          exact ⟨px, y, py, p, rfl, h2, h4, h5, by simpa using h6, h7, h8⟩
        all_goals exact ff h
    all_goals exact ff h
  all_goals exact ff h
theorem se_excIs {x : Str} {a : CE} (ha : SE G F k a) : SE G F k (.excIs x a) := SE.of (fun {X e w} c h => by
  obtain ⟨px, y, py, p, rfl, h1, h2, h3, h4, h5, h6⟩ := inv_excIs h
  have hmi : X.mg "isinstance" = none := c.g.blt _ (by simp [bltNames])
  have T := c.gx.er.all x h4
  have pt : PE X (.Name x py) (tC (.ref (He.ga X.K x))) := pe_glob (isGl_of h2) T.mg rfl (okN_of h3).1
  refine PEimp (pe_callB call_isX (isGl_of h1) hmi (by decide +kernel) (pa_cons (ha.w c h6) (pa_cons pt pa_nil rfl) (star_plain h5 _ _)) (by decide) (by decide) (star_plain h5 _ _) rfl) fun σ H Q ⟨cs, Av, ρ, st, r, st', ok, cl, en, he, q⟩ => ?_
  simp only [evE] at he
  split at he
  · rename_i y1 st1 e1
    split at he
    · rename_i b e2
      simp only [Option.some.injEq, Prod.mk.injEq] at he
      obtain ⟨rfl, rfl⟩ := he
      refine ⟨cs, Av, ρ, st, y1, _, ok, cl, en, e1, fun v H1 x1 c1 r1 => ?_⟩
      refine ⟨v, He.ga X.K x, b, rfl, ?_, q _ H1 x1 c1 (.vv (.bl b))⟩
      rcases excIs1_eq e2 with ⟨h7, rfl⟩ | ⟨cc, ee, h7, rfl⟩
      · rw [h7] at r1
        refine .inl ⟨?_, c.gx.er.isN x h4⟩
        rcases r1 with r1 | ⟨_, _, _, _, z, _⟩
        · cases r1; rfl
        · cases z
      · rw [h7] at r1
        obtain ⟨a', dd, o, u, w', rfl, g0, g1, g2, g3, g4, g5, _⟩ := Rw.exc r1
        have hc : cc ∈ G.er := by rw [c.gx.eq]; exact g0
        exact .inr ⟨a', dd, _, o, u, w', rfl, g1, g2, g3, g4, g5, (c.gx.er.all cc hc).xc, c.gx.er.is_ cc hc x h4⟩
    · cases he
  · cases he) (fun h => by obtain ⟨px, y, py, p, rfl, _⟩ := inv_excIs h; exact ⟨rfl, rfl⟩)
theorem inv_excVal {a : CE} {sc : Scope} {e : Expr} {w : Bool} (h : chkE G sc w (.excVal a) e = true) : ∃ x px p, e = .Attribute (.Name x px) "value" p ∧ chkE G sc false a (.Name x px) = true := by
  cases e
  case Attribute o m p =>
    cases o
    case Name x px =>
      have h1 : (m == ("value" : Str) && chkE G sc false a (.Name x px)) = true := h
      simp only [Bool.and_eq_true] at h1
      obtain rfl := eq_of_beq h1.1
      exact ⟨x, px, p, rfl, h1.2⟩
    all_goals exact ff h
  all_goals exact ff h
theorem se_excVal {a : CE} (ha : SE G F k a) : SE G F k (.excVal a) := SE.of (fun {X e w} c h => by
  obtain ⟨x, px, p, rfl, h1⟩ := inv_excVal h
  refine ⟨fun pins s σ H Q I ⟨cs, Av, ρ, st, r, st', ok, cl, en, he, q⟩ => ?_⟩
  simp only [evE] at he
  split at he
  case h_2 => cases he
  rename_i y1 st1 e1
  split at he
  case h_2 => cases he
  rename_i d e2
  simp only [Option.some.injEq, Prod.mk.injEq] at he
  obtain ⟨rfl, rfl⟩ := he
  refine attr_of rfl (thn ((ha.w c h1).run pins s σ H (fun v H1 => Ext cs H H1 ∧ Cl X.K cs Av H1 st1 ∧ Rw X.K cs Av H1 v y1.d) I ⟨cs, Av, ρ, st, y1, st1, ok, cl, en, e1, fun v H1 x1 c1 r1 => ⟨x1, c1, r1⟩⟩) fun u s1 ⟨v, H1, I1, rv, x1, c1, r1⟩ => ?_)
  obtain ⟨cc, h7⟩ := excVal1_eq e2
  rw [h7] at r1
  obtain ⟨a', dd, o, u', w', rfl, g0, g1, g2, g3, g4, g5, g6⟩ := Rw.exc r1
  cases (show u = Value.ref a' from rv)
  have hc : cc ∈ G.er := by rw [c.gx.eq]; exact g0
  have T := c.gx.er.all cc hc
  obtain ⟨fI, D, R, _⟩ := T.rk
  obtain ⟨od, uv, J, ru, hl⟩ := exc_inst I1 g1 g2 g3 g4 g5
  exact HandSPX.exc_get I1.kIn J T.xf.ga T.xf.gg T.xf.exC (hl T.xf.hdC R.no) (handed_of ru) ⟨w', H1, I1.tok _, ru, q _ _ x1 c1 (.vv g6)⟩) (fun h => by obtain ⟨x, px, p, rfl, _⟩ := inv_excVal h; exact ⟨rfl, rfl⟩)
end
end Ev

set_option Elab.async false
set_option linter.all false
set_option maxRecDepth 100000
set_option maxHeartbeats 4000000
/-! Comprehensions; such that call a frame's closures. -/
namespace Ev
variable [Zc]
open PySem PySem.Spec PyProof.Rows L2
/-- a block's environment, made at s -/
abbrev bEnv (X : Cx) (scope : Scope) (s : Shared) : Env := compEnvC scope (cellsFrom (s.heap.objs.size + 1) scope.names (cloFrom X.env.cells scope.names [])) s.heap.objs.size X.env
abbrev Blk (X : Cx) (scope : Scope) (s : Shared) (H : Hp) (fp : List Addr) : Cx := X.blk s H scope (bEnv X scope s) fp
/-- a comprehension whose item may lean on where the frame stood when the block began -/
theorem comp_in {X : Cx} {pins : List (Addr × Obj)} {s : Shared} {σ : L2.St} {H : Hp} {Q : VK} {elt tg iter : Expr} {ifs : List Expr} {scope : Scope} {own : List (Str × Nat)} {pos pos' : Pos} {wi : TI} {g : TG} {tt : TT} {te : TE} {use : Option (Value → Sem Unit)} {Qf : Value → Shared → Prop}
    (calm : X.calm = true) (nd : X.N.Nodup) (I : Inv X pins σ H s) (hi : PI X tg iter wi) (bo : BlkOk X.N X.env.scope scope own)
    (hg : ∀ (s1 : Shared) (H1 : Hp) (fp : List Addr), PG (Blk X scope s1 H1 fp) tg g) (ht : ∀ (s1 : Shared) (H1 : Hp) (fp : List Addr), PTs (Blk X scope s1 H1 fp) ifs tt)
    (he : ∀ (s1 : Shared) (H1 : Hp) (fp : List Addr), Inv X pins σ H1 s1 → (∀ b ∈ fp, FpOk X pins H1 b ∧ b < s1.heap.objs.size) → PE (Blk X scope s1 H1 fp) elt te) (fo : ∀ x, foldedSetIterable iter X.env x = pure x)
    (h : tLc wi g tt te (own.map (·.2)) σ H Q)
    (out : ∀ L C s' m H', Inv X pins σ H' s' → Q (.ref L) H' → s'.heap.Ns C m → FpOk X pins H' C → compPost (model X.prog X.w) X.A X.xe use Qf (.ref L) C (.ok .next) s') :
    wpAny (model X.prog X.w) X.A (comprehension (.ListComp elt [⟨tg, iter, ifs, 0⟩] scope pos) scope X.env pos' (newList []) false (eval iter X.env) use) Qf X.xe s := by
  have fre : ∀ y ∈ scope.names, y.2 = .free → ∃ c, X.env.cells.lookup y.1 = some c := fun y hy e => (bo.free y hy e).elim (fun z => I.ok.has _ (.inl z)) fun z => I.ok.has _ (.inr z)
  refine wpAny_comprehension_free (use := use) rfl fo (closure_ok fre) bo.kind (fun y hy e => (bo.uniq y hy).trans (by rw [e])) ?_
  refine thn (hi.run pins s σ H _ I h) fun _ sa w1 => thn w1 fun _ sb w2 => ?_
  obtain ⟨it, fp, tn, J, Hb, rfl, Ib, T, tb, fb, rest⟩ := w2
  refine wpAny_newObj_type (newEnv_comp ?_) (by show 0 ≤ sizeLine; decide)
  obtain ⟨L, eL⟩ : ∃ L, sb.heap.objs.size = L := ⟨_, rfl⟩
  rw [eL]
  obtain ⟨W, ⟨m0, w0⟩, turn⟩ := rest L (Ib.hok.fresh (Nat.le_of_eq eL))
  -- behind the list that is made
  obtain ⟨sc, esc⟩ : ∃ sc : Shared, ({ sb with heap := sb.heap.push { cls := .type "list", data := .seq ([] : List Value).toArray } } : Shared) = sc := ⟨_, rfl⟩
  obtain ⟨Hc, eHc⟩ : ∃ Hc : Hp, upd Hb L (.lst []) = Hc := ⟨_, rfl⟩
  have hsc : sc.heap = sb.heap.push { cls := .type "list", data := .seq ([] : List Value).toArray } := by rw [← esc]
  have Ic : Inv X pins σ Hc sc := by
    rw [← esc, ← eHc]
    refine Ib.laid (t' := sb.toks) (fun b o e => Heap.get?_push_of_some _ e) (Nat.le_of_eq eL) ⟨Nat.zero_le _, [], 0, .nil, ?_⟩
    rw [← eL]
    exact Heap.get?_push_size _ rfl
  have low : ∀ b ∈ fp, b < sb.heap.objs.size := fun b hb => let ⟨_, e, _⟩ := T.obj _ _ tb b hb; Heap.lt_size e
  have fc : ∀ b ∈ fp, FpOk X pins Hc b ∧ b < sc.heap.objs.size := fun b hb => by
    have hlt := low b hb
    refine ⟨⟨?_, (fb b hb).2⟩, by rw [hsc, Heap.size_push]; exact Nat.lt_succ_of_lt hlt⟩
    rw [← eHc, upd_ne (by rw [← eL]; exact Nat.ne_of_lt hlt)]
    exact (fb b hb).1
  have tc : tn 0 sc.heap := T.keep _ _ _ tb fun b _ o e => by rw [hsc]; exact Heap.get?_push_of_some _ e
  have Id : Inv (X.blk sc Hc scope (bEnv X scope sc) fp) [] (wipe σ (own.map (·.2))) Hc { sc with heap := pushCells (sc.heap.push { cls := .type "dict", data := .dict #[] }) scope.names } := block_start Ic bo nd fc
  have pg : PG (X.blk sc Hc scope (bEnv X scope sc) fp) tg g := hg sc Hc fp
  have pt : PTs (X.blk sc Hc scope (bEnv X scope sc) fp) ifs tt := ht sc Hc fp
  have pe : PE (X.blk sc Hc scope (bEnv X scope sc) fp) elt te := he sc Hc fp Ic fc
  rw [eHc] at w0
  rw [esc]
  show codeAny _ _ (.compStart (.ListComp elt [⟨tg, iter, ifs, 0⟩] scope pos) 0 (.ref it) (.ref L) (bEnv X scope sc)) (compPost (model X.prog X.w) X.A X.xe use Qf (.ref L) sc.heap.objs.size) { sc with heap := pushCells (sc.heap.push { cls := .type "dict", data := .dict #[] }) scope.names }
  obtain ⟨sd, esd⟩ : ∃ sd : Shared, ({ sc with heap := pushCells (sc.heap.push { cls := .type "dict", data := .dict #[] }) scope.names } : Shared) = sd := ⟨_, rfl⟩
  rw [esd] at Id ⊢
  have loc : (bEnv X scope sc).locals = sc.heap.objs.size := rfl
  generalize hbe : bEnv X scope sc = be at Id pg pt pe loc ⊢
  have none0 : ∀ b ∈ fp, Hc b = none := fun b hb => (fc b hb).1.1
  have td : tn 0 sd.heap := T.keep _ _ _ tc fun b _ o e => by rw [← esd]; exact pushCells_keeps _ _ _ _ (Heap.get?_push_of_some _ e)
  have fpB : ∀ {σ' : L2.St} {H' : Hp} {s' : Shared}, Inv (X.blk sc Hc scope be fp) [] σ' H' s' → (∀ b ∈ fp, H' b = none) → ∀ b ∈ fp, FpOk (X.blk sc Hc scope be fp) [] H' b := fun {σ' H' s'} J' n b hb =>
    ⟨n b hb, (J'.ok.exf b hb).1, J'.ok.exfs b hb, .inl hb, fun x c e => (J'.ok.exf b hb).2 x c e, fun q hq => absurd (show q ∈ ([] : List (Addr × Obj)) ++ [] from hq) (by simp)⟩
  have loop : codeAny (model X.prog X.w) X.A (.compLoop (.ListComp elt [⟨tg, iter, ifs, 0⟩] scope pos) 0 (.ref it) (.ref L) be) (compPost (model X.prog X.w) X.A X.xe use Qf (.ref L) sc.heap.objs.size) sd := by
    refine compLoop_any (fun n s' => ∃ i H', Inv (X.blk sc Hc scope be fp) [] (wipe σ (own.map (·.2))) H' s' ∧ tn i s'.heap ∧ (∀ b ∈ fp, H' b = none) ∧ W i n H') ?_ m0 ⟨0, Hc, Id, td, none0, w0⟩
    rintro n se ⟨i, He, Ie, te1, ne, we⟩
    rcases turn i n He we with ⟨stop, qq⟩ | ⟨go, Nx, next, step⟩
    · refine thnF (T.done (X.blk sc Hc scope be fp) rfl rfl rfl calm i [] se _ He (fun _ _ => False) Ie (fpB Ie ne) te1 stop) fun r sf ⟨hr, If⟩ => ?_
      subst hr
      -- the frame again
      have Ig : Inv X pins σ He sf := Ic.call' (ch := fp) If.os If.base If.hok If.bare fun b hb => ⟨(fc b hb).1.2.2.2.1, (fc b hb).1.2.1, (fc b hb).1.2.2.2.2.1, (fc b hb).1.2.2.2.2.2⟩
      have nC : He sc.heap.objs.size = none := by
        rw [← loc]
        exact If.free
      obtain ⟨m, hm, _⟩ := If.loc
      have hm : sf.heap.Ns be.locals m := hm
      rw [loc] at hm
      exact out L sc.heap.objs.size sf m He Ig qq hm (Ic.fpOk (Nat.le_refl _) nC)
    · refine thnF (T.item (X.blk sc Hc scope be fp) rfl rfl rfl calm i [] se _ He (fun _ _ => False) Ie (fpB Ie ne) te1 go) fun r sf ⟨u, hr, h6⟩ => ?_
      subst hr
      refine thnF h6 fun _ sg ⟨x, Hg, Ig, rg, yg, tg1, ng⟩ => ?_
      have Ip := Ig.pinned (fpB Ig ng) (T.obj _ _ tg1)
      refine thnF (pg.run _ sg _ Hg x u _ Ip rg (step x Hg yg)) fun _ sh ⟨σh, Hh, Ih, hwh, qh⟩ => ?_
      refine thnF (pt.run _ sh σh Hh _ Ih qh) fun b sk ⟨Hk, Ik, qk⟩ => ?_
      have fin : ∀ {s' : Shared} {H' : Hp}, Inv (X.blk sc Hc scope be fp) ([] ++ pinsAt fp sg.heap) σh H' s' → Nx H' → ∃ m, m < n ∧ ∃ i H', Inv (X.blk sc Hc scope be fp) [] (wipe σ (own.map (·.2))) H' s' ∧ tn i s'.heap ∧ (∀ b ∈ fp, H' b = none) ∧ W i m H' := fun {s' H'} J' nx => by
        obtain ⟨m', hm, w'⟩ := next H' nx
        have pinned : ∀ b ∈ fp, ∀ o, sg.heap.get? b = some o → s'.heap.get? b = some o ∧ H' b = none := fun b hb o e =>
          ⟨(J'.pin (b, o) (List.mem_append_right _ (List.mem_append_right _ (mem_pinsAt hb e)))).1, (J'.pin (b, o) (List.mem_append_right _ (List.mem_append_right _ (mem_pinsAt hb e)))).2.1⟩
        have hl : (wipe σ (own.map (·.2))).length = σh.length := by rw [← hwh, wipe_length]
        refine ⟨m', hm, i + 1, H', (J'.unpinned (pins := [])).weak hl (fun j v e => ?_), T.keep _ _ _ tg1 fun b hb o e => (pinned b hb o e).1, fun b hb => ?_, w'⟩
        · rw [← hwh] at e
          exact (wipe_some e).1
        · obtain ⟨o, e, _⟩ := T.obj _ _ tg1 b hb
          exact (pinned b hb o e).2
      cases b with
      | false =>
        simp only [Bool.false_eq_true, if_false] at qk ⊢
        exact fin Ik qk
      | true =>
        simp only [if_true] at qk ⊢
        refine thnF (pe.run _ sk σh Hk _ Ik qk) fun z sl ⟨yv, Hl, Il, rl, acc, hL, hz, nx⟩ => ?_
        exact app_ok (X := X.blk sc Hc scope be fp) Il hL hz rl fun sm Im => fin Im nx
  exact codeAny_compStart_list loop (T.self X.A 0 _ _ _ td loop)

/-! ### what has no closure within -/
mutual
theorem nl_chk {G : Ga} {sc : Scope} : ∀ {ce : CE} {w : Bool} {e : Expr}, nlE ce = true → chkE G sc w ce e = chkE G.nl sc w ce e
  | .var i, w, e, h => by cases e <;> rfl
  | .con d, w, e, h => by cases e <;> rfl
  | .gl y d, w, e, h => by cases e <;> rfl
  | .tup es, w, e, h => by
    cases e
    case Tuple l k p => exact nls_chk (es := es) h
    all_goals rfl
  | .lst es, w, e, h => by
    cases e
    case List l p => exact nls_chk (es := es) h
    all_goals rfl
  | .bin o a b, w, e, h => by
    have h : (nlE a && nlE b) = true := h
    rw [Bool.and_eq_true] at h
    cases e
    case BinOp l p r q =>
      show (p == opOf o && chkE G sc true a l && chkE G sc true b r) = (p == opOf o && chkE G.nl sc true a l && chkE G.nl sc true b r)
      rw [nl_chk h.1, nl_chk h.2]
    all_goals rfl
  | .sub a i, w, e, h => by
    have h : (nlE a && nlE i) = true := h
    rw [Bool.and_eq_true] at h
    cases e
    case Subscript x y p =>
      show (chkE G sc true a x && chkE G sc false i y && plainSub y) = (chkE G.nl sc true a x && chkE G.nl sc false i y && plainSub y)
      rw [nl_chk h.1, nl_chk h.2]
    all_goals rfl
  | .call f es, w, e, h => by
    have h : nlEs es = true := h
    cases e
    case Call fn as ks p =>
      cases fn
      case Name x px =>
        match as, ks with
        | y :: l, [] =>
          show (fnIs G f x && isGl sc x && okN x && chkAs G sc false es (y :: l)) = (fnIs G.nl f x && isGl sc x && okN x && chkAs G.nl sc false es (y :: l))
          rw [nls_as h]
          rfl
        | [], _ => rfl
        | _ :: _, _ :: _ => rfl
      all_goals rfl
    all_goals rfl
  | .peek .., w, e, h | .neg .., w, e, h | .cmp .., w, e, h | .chain .., w, e, h | .and .., w, e, h | .or .., w, e, h | .one .., w, e, h | .not .., w, e, h | .ite .., w, e, h | .sl .., w, e, h | .rev .., w, e, h | .callk .., w, e, h | .blt .., w, e, h | .isi .., w, e, h | .meth .., w, e, h | .lrng .., w, e, h | .trng .., w, e, h | .comp .., w, e, h | .comp2 .., w, e, h | .cnt .., w, e, h | .idx .., w, e, h | .sset .., w, e, h | .dlit .., w, e, h | .dlitI .., w, e, h | .dget .., w, e, h | .lam .., w, e, h | .cc .., w, e, h | .excIs .., w, e, h | .excVal .., w, e, h => by cases h
theorem nls_chk {G : Ga} {sc : Scope} : ∀ {es : CEs} {l : List Expr}, nlEs es = true → chkEs G sc es l = chkEs G.nl sc es l
  | .nil, l, h => by cases l <;> rfl
  | .cons true a r, l, h => by cases h
  | .cons false a r, l, h => by
    have h : (nlE a && nlEs r) = true := h
    rw [Bool.and_eq_true] at h
    cases l with
    | nil => rfl
    | cons e es =>
      show (plainE e && chkE G sc false a e && chkEs G sc r es) = (plainE e && chkE G.nl sc false a e && chkEs G.nl sc r es)
      rw [nl_chk h.1, nls_chk h.2]
theorem nls_as {G : Ga} {sc : Scope} : ∀ {es : CEs} {w : Bool} {l : List Expr}, nlEs es = true → chkAs G sc w es l = chkAs G.nl sc w es l
  | .nil, w, l, h => by cases l <;> rfl
  | .cons true a r, w, l, h => by cases h
  | .cons false a r, w, l, h => by
    have h : (nlE a && nlEs r) = true := h
    rw [Bool.and_eq_true] at h
    cases l with
    | nil => rfl
    | cons e es =>
      show (plainE e && chkE G sc w a e && chkAs G sc w r es) = (plainE e && chkE G.nl sc w a e && chkAs G.nl sc w r es)
      rw [nl_chk h.1, nls_as h.2]
end
mutual
theorem nl_SE (G : Ga) (F : FT) (k : Nat) : ∀ {ce : CE}, nlE ce = true → SE G F k ce
  | .var i, h => se_var i
  | .con d, h => se_con d
  | .gl y d, h => se_gl y d
  | .tup es, h => se_tup (nl_SEs G F k (es := es) h)
  | .lst es, h => se_lst (nl_SEs G F k (es := es) h)
  | .bin o a b, h => by
    have h : (nlE a && nlE b) = true := h
    rw [Bool.and_eq_true] at h
    exact se_bin (nl_SE G F k h.1) (nl_SE G F k h.2)
  | .sub a i, h => by
    have h : (nlE a && nlE i) = true := h
    rw [Bool.and_eq_true] at h
    exact se_sub (nl_SE G F k h.1) (nl_SE G F k h.2)
  | .call f es, h => se_call (nl_SEs G F k (es := es) h)
  | .peek .., h | .neg .., h | .cmp .., h | .chain .., h | .and .., h | .or .., h | .one .., h | .not .., h | .ite .., h | .sl .., h | .rev .., h | .callk .., h | .blt .., h | .isi .., h | .meth .., h | .lrng .., h | .trng .., h | .comp .., h | .comp2 .., h | .cnt .., h | .idx .., h | .sset .., h | .dlit .., h | .dlitI .., h | .dget .., h | .lam .., h | .cc .., h | .excIs .., h | .excVal .., h => by cases h
theorem nl_SEs (G : Ga) (F : FT) (k : Nat) : ∀ {es : CEs}, nlEs es = true → SEs G F k es
  | .nil, h => ses_nil
  | .cons true a r, h => by cases h
  | .cons false a r, h => by
    have h : (nlE a && nlEs r) = true := h
    rw [Bool.and_eq_true] at h
    exact ses_cons (nl_SE G F k h.1) (nl_SEs G F k h.2)
end
/-! ### slots that a closure does not look at -/
theorem wipeE_get {own : List Nat} {j : Nat} (h : j ∉ own) : ∀ {ρ : Rho}, (wipeE ρ own)[j]? = ρ[j]? := by
  induction own with
  | nil => intro ρ; rfl
  | cons v r ih =>
    intro ρ
    simp only [List.mem_cons, not_or] at h
    unfold wipeE
    rw [List.getElem?_set_ne (fun e => h.1 e.symm)]
    exact ih h.2
section
variable {F : FT} {own : List Nat} {ρ ρ' : Rho}
mutual
theorem fr_ev (hq : ∀ j, j ∉ own → ρ'[j]? = ρ[j]?) : ∀ {ce : CE} {st : Sto}, frE own ce = true → evE F ce ρ' st = evE F ce ρ st
  | .var i, st, h => by
    have h : (!own.contains i) = true := h
    have hi : i ∉ own := by simpa using h
    simp only [evE, hq i hi]
  | .con d, st, h => by simp only [evE]
  | .gl y d, st, h => by simp only [evE]
  | .neg a, st, h => by
    have e1 := fr_ev hq (ce := a) (st := st) h
    simp only [evE, e1]
  | .tup es, st, h => by
    have e1 := frs_ev hq (es := es) (st := st) h
    simp only [evE, e1]
  | .peek .., st, h | .lst .., st, h | .bin .., st, h | .cmp .., st, h | .chain .., st, h | .and .., st, h | .or .., st, h | .one .., st, h | .not .., st, h | .ite .., st, h | .sub .., st, h | .sl .., st, h | .rev .., st, h | .call .., st, h | .callk .., st, h | .blt .., st, h | .isi .., st, h | .meth .., st, h | .lrng .., st, h | .trng .., st, h | .comp .., st, h | .comp2 .., st, h | .cnt .., st, h | .idx .., st, h | .sset .., st, h | .dlit .., st, h | .dlitI .., st, h | .dget .., st, h | .lam .., st, h | .cc .., st, h | .excIs .., st, h | .excVal .., st, h => by cases h
theorem frs_ev (hq : ∀ j, j ∉ own → ρ'[j]? = ρ[j]?) : ∀ {es : CEs} {st : Sto}, frEs own es = true → evEs F es ρ' st = evEs F es ρ st
  | .nil, st, h => by simp only [evEs]
  | .cons true a r, st, h => by cases h
  | .cons false a r, st, h => by
    have h : (frE own a && frEs own r) = true := h
    rw [Bool.and_eq_true] at h
    have e1 := fr_ev hq (ce := a) (st := st) h.1
    have e2 : ∀ st, evEs F r ρ' st = evEs F r ρ st := fun st => frs_ev hq (es := r) (st := st) h.2
    simp only [evEs, e1, e2]
end
theorem free_evL {st : Sto} (hq : ∀ j, j ∉ own → ρ'[j]? = ρ[j]?) : ∀ {l : LLs} {n : Nat}, llFree own l = true → evL F l n ρ' st = evL F l n ρ st
  | .nil, n, h => by simp only [evL]
  | .cons m f es r, n, h => by
    have h : (frEs own es && llFree own r) = true := h
    rw [Bool.and_eq_true] at h
    have hq2 : ∀ j, j ∉ own → (hideC ρ')[j]? = (hideC ρ)[j]? := fun j hj => by
      unfold hideC
      rw [List.getElem?_map, List.getElem?_map, hq j hj]
    have e1 := frs_ev (F := F) hq2 (es := es) (st := []) h.1
    have e2 := free_evL hq (l := r) (n := n) (st := st) h.2
    simp only [evL, e1, e2]
end
section
variable {G : Ga} {F : FT} {k : Nat}
/-- a frame's closure, called from a block of it -/
theorem pe_ccB {X : Cx} {pins : List (Addr × Obj)} {σ : L2.St} {H0 : Hp} {s0 : Shared} {fp : List Addr} {scope : Scope} {own : List Nat} {e : Expr} {w : Bool} {g : Nat} {a : CE} {es : CEs} {ls : LLs} (c : Cd G F k X) (I0 : Inv X pins σ H0 s0) (hfp : ∀ b ∈ fp, FpOk X pins H0 b ∧ b < s0.heap.objs.size)
    (h : chkE G (relS scope X.env.scope) w (.cc g a es ls) e = true) (hna : nlE a = true) (hnl : nlEs es = true) (hfr : llFree own G.lam = true) :
    PE (Blk X scope s0 H0 fp) e (fun σ' H Q => L2.wipe σ' own = L2.wipe σ own ∧ tS X.K F (.cc g a es ls) σ' H Q) := by
  obtain ⟨x, px, y, l, p, rfl, rfl, h1, h2, h3, h4⟩ := inv_cc h
  obtain ⟨dl, fa, fd, ps, hdl, hm, hk, FC, hb, hn⟩ := fc_get c h1
  have cB : Cd G.nl F k (Blk X scope s0 H0 fp) := c.blk s0 H0 scope _ _ fp
  have hnl2 : nlEs (.cons false a es) = true := by
    show (nlE a && nlEs es) = true
    rw [hna, hnl]; rfl
  have hs : SEs G.nl F k (.cons false a es) := nl_SEs G.nl F k hnl2
  rw [nls_as hnl2] at h4
  refine ⟨fun pins' s σ' H Q I ⟨hw, cs, Av, ρ, st, r, st', ok, cl, en, he, q⟩ => ?_⟩
  simp only [evE] at he
  split at he
  case h_2 => cases he
  rename_i xa st1 e1
  split at he
  case h_2 => cases he
  rename_i ds st2 e2
  split at he
  case h_2 => cases he
  rename_i n hn1
  split at he
  case h_2 => cases he
  rename_i od e3
  obtain ⟨m, hx, rfl⟩ := cloOf_eq hn1
  have e4 : evEs F (.cons false a es) ρ st = some (xa.d :: ds, st2) := by simp only [evEs, e1, e2]
  refine wpAny_Call_Name_kw (ld_glob I (isGl_of h2) hm ?_ (okN_of h3).1)
  refine PySem.W.callWith_K (h₀ := X.base) I.ok.mod.kin hk (thn ((hs.p cB h4).run p pins' s σ' H (fun vs H1 => Ext cs H H1 ∧ Cl X.K cs Av H1 st2 ∧ Rps X.K cs Av H1 vs (xa.d :: ds)) I ⟨cs, Av, ρ, st, _, st2, ok, cl, en, e4, fun vs H1 x1 c1 rs => ⟨x1, c1, rs⟩⟩) fun us s1 ⟨vs, H1, I1, rv, x1, c1, rs⟩ => ⟨I1.kIn, ?_⟩) (chkAs_hd h4 _ p).1 (chkAs_hd h4 _ p).2
  have ok1 := ok.ext x1 c1
  have en1 := en.ext ok x1
  -- the frame, seen from here
  have Io : Inv X pins σ H1 s1 := I0.call' (ch := fp) I1.os I1.base I1.hok I1.bare fun b hb => ⟨(hfp b hb).1.2.2.2.1, (hfp b hb).1.2.1, (hfp b hb).1.2.2.2.2.1, (hfp b hb).1.2.2.2.2.2⟩
  have hlen : σ.length = σ'.length := by rw [← wipe_length σ own, ← hw, wipe_length]
  have eno : En X.K cs Av H1 σ (wipeE ρ own) := by
    have e0 := en1.wipe own
    refine ⟨by rw [hlen, ← wipe_length σ' own]; exact e0.len, fun j => ?_⟩
    by_cases hj : j ∈ own
    · have z := e0.at_ j
      rw [wipe_get] at z
      by_cases hl : j < σ'.length
      · rw [if_pos ⟨hj, hl⟩] at z
        match hr : (wipeE ρ own)[j]?, z with
        | none, _ => trivial
        | some none, _ => trivial
        | some (some (.v d)), ⟨v, z1, _⟩ => cases z1
        | some (some (.o ds)), ⟨a, vs, z1, _⟩ => cases z1
      · rw [List.getElem?_eq_none (l := wipeE ρ own) (by rw [← e0.len, wipe_length]; omega)]
        trivial
    · have z := e0.at_ j
      rw [hw, wipe_out hj] at z
      exact z
  have e3' : evL F G.lam m.toNat (wipeE ρ own) st2 = some od := by
    rw [free_evL (fun j hj => wipeE_get hj) hfr]
    exact e3
  rw [hx] at rs
  match vs, us, rs, rv with
  | v0 :: vs, u0 :: us, .cons r0 rs2, .cons rv0 rv2 =>
    cases r0 with
    | dct _ _ _ _ hk => exact dct_ne2 hk
    | @clo f c' ob u n qq hz hf hc =>
      cases (show u0 = Value.ref f from rv0)
      obtain ⟨h5, o, rfl, P⟩ := clo_clp c Io ok1 eno rfl hz hf hc (n := n) (by simpa using e3')
      have hl : (o.d :: ds).length = ps.length := hn _ _ _ he
      have hl2 : vs.length + 1 = ps.length := by rw [rs2.length]; simpa using hl
      have hl3 : (Value.ref f :: us).length = ps.length := by rw [List.length_cons, ← rv2.length]; exact hl2
      have hb' := hb s1 (Value.ref f :: us) I1.kIn (by simpa using hl3)
      rw [List.append_nil] at hb'
      show wpAny _ _ (call (.ref fa) (Value.ref f :: us)) _ _ _
      refine wpAny_call (codeAny_mono (FC.run X.A X.stack s1 H1 ⟨Value.ref f :: us, []⟩ f us vs Q (k - 3) cs Av o ds st2 r st' c.rm c.gd I1.env0 hb' rv2 (by omega) P hl2 ok1 c1 rs2 he fun v H2 x2 c2 r2 => q v H2 (x1.trans x2) c2 (r2.old x1 ok1)) fun r s2' hq => ?_)
      cases r with
      | error e => exact hq.elim
      | ok fl =>
        cases fl with
        | ret u => exact I1.after hq
        | next => exact False.elim hq
        | brk => exact False.elim hq
        | cont => exact False.elim hq
/-- an item that calls a closure of the frame -/
theorem pe_clC {X : Cx} {pins : List (Addr × Obj)} {σ : L2.St} {H0 : Hp} {s0 : Shared} {fp : List Addr} {scope : Scope} {own : List Nat} {e : Expr} {elt : CE} (c : Cd G F k X) (I0 : Inv X pins σ H0 s0) (hfp : ∀ b ∈ fp, FpOk X pins H0 b ∧ b < s0.heap.objs.size)
    (h : chkE G (relS scope X.env.scope) false elt e = true) (hc : clC own G.lam elt = true) :
    PE (Blk X scope s0 H0 fp) e (fun σ' H Q => L2.wipe σ' own = L2.wipe σ own ∧ tS X.K F elt σ' H Q) := by
  unfold clC at hc
  split at hc
  · rw [Bool.and_eq_true] at hc
    exact pe_ccB c I0 hfp h rfl hc.1 hc.2
  · rw [Bool.and_eq_true] at hc
    obtain ⟨x, y, p, rfl, h1, h2, h3⟩ := inv_sub h
    have cB : Cd G.nl F k (Blk X scope s0 H0 fp) := c.blk s0 H0 scope _ _ fp
    have pa := pe_ccB (own := own) c I0 hfp h1 rfl hc.1 hc.2
    rw [nl_chk (ce := .con (.int 0)) rfl] at h2
    have pb := (se_con (G := G.nl) (F := F) (k := k) (.int 0)).s cB h2
    refine PEimp (pe_ix (ix_list.or (ix_tup.or (ix_dct (by have := c.u; show X.A.units + 1 < cLine; omega)))) (ta := fun σ' H Q => L2.wipe σ' own = L2.wipe σ own ∧ tW X.K F _ σ' H Q) (PEimp pa fun σ' H Q ⟨hw, cs, Av, ρ, st, r, st', ok, cl, en, he, q⟩ => ⟨hw, cs, Av, ρ, st, r, st', ok, cl, en, he, fun v H' ex cl' rp => q v H' ex cl' (rp.1.w ok)⟩) pb (plainIx_of h3)) fun σ' H Q ⟨hw, z⟩ => ⟨hw, sub_imp z⟩
  · cases hc
theorem se_comp {own : List Nat} {tg : Tg} {it : CI} {ifs : CEs} {elt : CE} (hi : SI G F k it) (hf : SFs G.nl F k ifs) (he : SE G.nl F k elt) : SE G F k (.comp own tg it ifs elt) := SE.of (fun {X e w} c h => by
  obtain ⟨x, t, i, fs, scope, p, rfl, h1, h2, h3, h4, h5, h6, h7⟩ := inv_comp h
  have hblk := blkOk_by (by rw [c.N]; exact h1 : blkC X.N X.env.scope scope (chkOwn G.N own) = true)
  rw [Bool.or_eq_true] at h6
  rcases h6 with h6 | h6
  · refine PEimp (pe_lc (own := chkOwn G.N own) c.calm (by rw [c.N]; exact c.nd) (hi.i c h2) hblk (g := tG X.K tg) (tt := tF X.K F ifs) (te := tS X.K F elt)
      (fun s H C cl fp => tg_ok (fp := fun x => scope.names.lookup x == some .cell) (c.blk s H scope C cl fp) (fun x hx => hx) h4) (fun s H C cl fp => hf.f (c.blk s H scope C cl fp) h5) (fun s H C cl fp => he.s (c.blk s H scope C cl fp) h6) (foldOk h7 _)) fun σ H Q h' => by rw [own_map]; exact comp_imp h3 (pr_tp h2 h4) (fun _ _ _ _ z => z) h'
  · rw [Bool.and_eq_true] at h6
    refine ⟨fun pins s σ H Q I h' => ?_⟩
    rw [eval_ListComp]
    refine comp_in (own := chkOwn G.N own) (g := tG X.K tg) (tt := tF X.K F ifs) (te := fun σ' H Q => L2.wipe σ' own = L2.wipe σ own ∧ tS X.K F elt σ' H Q) (Q := Q) c.calm (by rw [c.N]; exact c.nd) I (hi.i c h2) hblk
      (fun s H fp => tg_ok (fp := fun x => scope.names.lookup x == some .cell) (c.blk s H scope _ _ fp) (fun x hx => hx) h4) (fun s H fp => hf.f (c.blk s H scope _ _ fp) h5) (fun s1 H1 fp I1 hfp => pe_clC c I1 hfp h6.2 h6.1) (foldOk h7 _)
      (by rw [own_map]; exact comp_imp h3 (pr_tp h2 h4) (fun _ _ _ a z => ⟨a, z⟩) h') fun L C s' m H' I' q hn f => ⟨m, hn, fun h'' sb => ?_⟩
    obtain ⟨f0, f1, f2, f3, f4, f5⟩ := f
    exact ⟨.ref L, H', I'.turned (t' := s'.toks) (fun b o hb e => (sb.2 b hb).trans e) f0 f1 f3 f4 f5, rfl, q⟩) (fun h => by obtain ⟨x, t, i, fs, scope, p, rfl, _⟩ := inv_comp h; exact ⟨rfl, rfl⟩)
/-- name = [..] at once, the items calls of closures -/
theorem ps_setCl {X : Cx} {own : List Nat} {tg : Tg} {it : CI} {ifs : CEs} {elt : CE} {j : Nat} {y : Str} {py p spos : Pos} {x t i : Expr} {fs : List Expr} {scope : Scope} (c : Cd G F k X) (hi : SI G F k it) (hf : SFs G.nl F k ifs) (hy : X.N[j]? = some y) (hyl : X.env.scope.names.lookup y = some .local)
    (sw : swapsWith (.ListComp x [⟨t, i, fs, 0⟩] scope p) (some (.Name y py)) spos.line X.env = pure true) (h1 : blkC G.N X.env.scope scope (chkOwn G.N own) = true) (h2 : chkI G X.env.scope true it t i = true) (h3 : tgIn own tg = true) (h4 : chkT G.nl (fun x => scope.names.lookup x == some .cell) (relS scope X.env.scope) tg t = true) (h5 : chkFs G.nl (relS scope X.env.scope) ifs fs = true)
    (h6 : clC own G.lam elt = true) (h8 : chkE G (relS scope X.env.scope) false elt x = true) (h7 : itOk i = true) :
    PS X (.Assign [.Name y py] (.ListComp x [⟨t, i, fs, 0⟩] scope p) spos) (tAsg (tS X.K F (.comp own tg it ifs elt)) (gName j)) := by
  have hblk := blkOk_by (by rw [c.N]; exact h1 : blkC X.N X.env.scope scope (chkOwn G.N own) = true)
  have hN : X.N.Nodup := by rw [c.N]; exact c.nd
  refine ⟨fun pins s σ H D I h' => ?_⟩
  rw [exec_Assign_Name_used _ _ _ _ sw]
  refine wpAny_bind (wpAny_standAt (wpAny_bind ?_))
  show wpAny _ X.A (do let _ ← comprehension (.ListComp x [⟨t, i, fs, 0⟩] scope p) scope X.env (firstIterPos [⟨t, i, fs, 0⟩] p) (newList []) false (eval i X.env) (some (assign (.Name y py) X.env))) _ _ s
  have h' : tS X.K F (.comp own tg it ifs elt) σ H (fun x H1 => gName j x σ H1 D.nx) := h'
  refine wpAny_bind (thn (comp_in (Qf := fun _ s' => SP X pins D .next s') (own := chkOwn G.N own) (g := tG X.K tg) (tt := tF X.K F ifs) (te := fun σ' H Q => L2.wipe σ' own = L2.wipe σ own ∧ tS X.K F elt σ' H Q) c.calm hN I (hi.i c h2) hblk
      (fun s H fp => tg_ok (fp := fun x => scope.names.lookup x == some .cell) (c.blk s H scope _ _ fp) (fun x hx => hx) h4) (fun s H fp => hf.f (c.blk s H scope _ _ fp) h5) (fun s1 H1 fp I1 hfp => pe_clC c I1 hfp h8 h6) (foldOk h7 _)
      (by rw [own_map]; exact comp_imp h3 (pr_tp h2 h4) (fun _ _ _ a z => ⟨a, z⟩) h') fun L C s' m H' I' q hn f => ?_) fun _ s' hq => wpAny_pure (wpAny_pure hq))
  show wpAny _ _ (assign (.Name y py) X.env (.ref L)) _ _ _
  refine wpAny_assign_Name (store_ok2 (v := V.ref L) I' hN hy (.inl hyl) rfl (fun s2 I2 ⟨a, sb, ha⟩ => ?_) (.inr hyl))
  obtain ⟨f0, f1, f2, f3, f4, f5⟩ := f
  have haC : C ≠ a := by
    rcases ha with z | z
    · rw [z]; exact f1
    · exact fun e => f4 y a z e.symm
  exact ⟨m, hn.sameBut sb haC, fun h3 sb3 => ⟨_, H', I2.turned (t' := s2.toks) (fun b o hb e => (sb3.2 b hb).trans e) f0 f1 f3 f4 f5, q⟩⟩
end
end Ev

set_option Elab.async false
set_option linter.all false
set_option maxRecDepth 100000
set_option maxHeartbeats 4000000
/-! All the expressions, by induction. -/
namespace Ev
variable [Zc]
open PySem PySem.Spec PyProof.Rows L2
section
variable {G : Ga} {F : FT} {k : Nat}
mutual
theorem sEa (F : FT) (k : Nat) : ∀ (ce : CE) (G : Ga), SE G F k ce
  | .var i, G => se_var i
  | .peek i, G => se_peek i
  | .con d, G => se_con d
  | .gl x d, G => se_gl x d
  | .tup es, G => se_tup (sEsa F k es G)
  | .lst es, G => se_lst (sEsa F k es G)
  | .bin o a b, G => se_bin (sEa F k a G) (sEa F k b G)
  | .neg a, G => se_neg (sEa F k a G)
  | .cmp o a b, G => se_cmp (sEa F k a G) (sEa F k b G)
  | .chain o p a b c, G => se_chain (sEa F k a G) (sEa F k b G) (sEa F k c G)
  | .and a b, G => se_and (sEa F k a G) (sEa F k b G)
  | .or a b, G => se_or (sEa F k a G) (sEa F k b G)
  | .one a, G => se_one (sEa F k a G)
  | .not a, G => se_not (sEa F k a G)
  | .ite c a b, G => se_ite (sEa F k c G) (sEa F k a G) (sEa F k b G)
  | .sub a i, G => se_sub (sEa F k a G) (sEa F k i G)
  | .sl a lo hi, G => se_sl (sEa F k a G) (sOa F k lo G) (sOa F k hi G)
  | .rev a, G => se_rev (sEa F k a G)
  | .call f es, G => se_call (sEsa F k es G)
  | .callk f es perm, G => se_callk (sKsa F k es G)
  | .blt b es, G => se_blt (sEsa F k es G)
  | .isi t a, G => se_isi (sEa F k a G)
  | .meth m a es, G => SE.of (fun {X e w} c h => by cases e <;> exact ff h) (fun {sc e w} h => by cases e <;> exact ff h)
  | .lam n, G => se_lam n
  | .cc g a es ls, G => se_cc (ses_cons (sEa F k a G) (sEsa F k es G))
  | .excIs x a, G => se_excIs (sEa F k a G)
  | .excVal a, G => se_excVal (sEa F k a G)
  | .lrng es, G => se_lrng (sEsa F k es G)
  | .trng es, G => se_trng (sEsa F k es G)
  | .comp own tg it ifs elt, G => se_comp (sIa F k it G) (sFsa F k ifs G.nl) (sEa F k elt G.nl)
  | .comp2 own tg it ifs tg1 it1 ifs1 elt, G => se_comp2 (sIa F k it G) (sFsa F k ifs G.nl) (sIa F k it1 G.nl) (sFsa F k ifs1 G.nl) (sEa F k elt G.nl)
  | .cnt a x, G => se_cnt (sEa F k a G) (sEa F k x G)
  | .idx a x, G => se_idx (sEa F k a G) (sEa F k x G)
  | .dlitI is es, G => se_dlitI (sDia F k es G)
  | .dget a b z, G => se_dget (sEa F k a G) (sEa F k b G) (sEa F k z G)
  | .sset a, G => se_sset (sEa F k a G)
  | .dlit ks es, G => se_dlit (sDsa F k es G)
theorem sDsa (F : FT) (k : Nat) : ∀ (ces : CEs) (G : Ga), SDs G F k ces
  | .nil, G => sds_nil
  | .cons false e r, G => sds_cons (sEa F k e G) (sDsa F k r G)
  | .cons true e r, G => sds_star
theorem sDia (F : FT) (k : Nat) : ∀ (ces : CEs) (G : Ga), SDi G F k ces
  | .nil, G => sdi_nil
  | .cons false e r, G => sdi_cons (sEa F k e G) (sDia F k r G)
  | .cons true e r, G => sdi_star
theorem sEsa (F : FT) (k : Nat) : ∀ (ces : CEs) (G : Ga), SEs G F k ces
  | .nil, G => ses_nil
  | .cons false e r, G => ses_cons (sEa F k e G) (sEsa F k r G)
  | .cons true e r, G => ses_star (sEa F k e G) (sEsa F k r G)
theorem sKsa (F : FT) (k : Nat) : ∀ (ces : CEs) (G : Ga), SKs G F k ces
  | .nil, G => sks_nil
  | .cons false e r, G => sks_cons (sEa F k e G) (sKsa F k r G)
  | .cons true e r, G => sks_star
theorem sFsa (F : FT) (k : Nat) : ∀ (ces : CEs) (G : Ga), SFs G F k ces
  | .nil, G => sfs_nil
  | .cons s e r, G => sfs_cons (sEa F k e G) (sFsa F k r G)
theorem sOa (F : FT) (k : Nat) : ∀ (ce : CEo) (G : Ga), SO G F k ce
  | .none, G => so_none
  | .some e, G => so_some (sEa F k e G)
theorem sIa (F : FT) (k : Nat) : ∀ (ci : CI) (G : Ga), SI G F k ci
  | .seq e, G => si_seq (sEa F k e G)
  | .rng es, G => si_rng (sEsa F k es G)
  | .enum e, G => si_enum (sEa F k e G)
  | .zip a b, G => si_zip (sEa F k a G) (sEa F k b G)
end
end
section
theorem sE (G : Ga) (F : FT) (k : Nat) (ce : CE) : SE G F k ce := sEa F k ce G
theorem sDs (G : Ga) (F : FT) (k : Nat) (ce : CEs) : SDs G F k ce := sDsa F k ce G
theorem sDi (G : Ga) (F : FT) (k : Nat) (ce : CEs) : SDi G F k ce := sDia F k ce G
theorem sEs (G : Ga) (F : FT) (k : Nat) (ce : CEs) : SEs G F k ce := sEsa F k ce G
theorem sKs (G : Ga) (F : FT) (k : Nat) (ce : CEs) : SKs G F k ce := sKsa F k ce G
theorem sFs (G : Ga) (F : FT) (k : Nat) (ce : CEs) : SFs G F k ce := sFsa F k ce G
theorem sO (G : Ga) (F : FT) (k : Nat) (ce : CEo) : SO G F k ce := sOa F k ce G
theorem sI (G : Ga) (F : FT) (k : Nat) (ce : CI) : SI G F k ce := sIa F k ce G
end
end Ev

set_option Elab.async false
set_option linter.all false
set_option maxRecDepth 100000
set_option maxHeartbeats 4000000
/-! Where a body stands. -/
namespace Ev
variable [Zc]
open PySem PySem.Spec PyProof.Rows L2

/-- the slot i owns the list at a -/
def OwnAt (σ : L2.St) (ρ : Rho) (i : Nat) (a : Addr) : Prop := ∃ ds : List D, ρ[i]? = some (some (RV.o ds)) ∧ σ[i]? = some (some (.ref a))
structure SR (K : PySem.W.Frag) (H0 : Hp) (Av0 : Addr → Prop) (cs : List Addr) (Av : Addr → Prop) (H : Hp) (σ : L2.St) (ρ : Rho) (st : Sto) : Prop where
  ok : AvOk cs Av H
  cl : Cl K cs Av H st
  en : En K cs Av H σ ρ
  ex : Ext cs H0 H
  low : ∀ a, Av0 a → ∃ o, H0 a = some o
  sub : ∀ a, Av0 a → Av a
  fr : ∀ i a, OwnAt σ ρ i a → H0 a = none
  inj : ∀ i j a, OwnAt σ ρ i a → OwnAt σ ρ j a → i = j
/-- from one place of a body to another -/
structure Stp (cs : List Addr) (Av : Addr → Prop) (H : Hp) (cs' : List Addr) (Av' : Addr → Prop) (H' : Hp) : Prop where
  pre : ∃ e, cs' = cs ++ e
  ext : ExtP Av H H'
  grow : ∀ a, Av' a → Av a ∨ H a = none
  tb : ∀ b ps, H b = some (.tbl ps) → ∃ ps', H' b = some (.tbl ps')
section
variable {K : PySem.W.Frag} {cs cs' cs2 : List Addr} {Av0 Av Av' Av2 : Addr → Prop} {H0 H H' H1 H2 : Hp} {v : V} {vs : List V} {d : D} {ds : List D} {st st' : Sto} {σ σ' : L2.St} {ρ ρ' : Rho} {r : RV}
theorem Stp.refl : Stp cs Av H cs Av H := ⟨⟨[], by simp⟩, ExtP.refl, fun a h => .inl h, fun b ps h => ⟨ps, h⟩⟩
theorem Stp.trans (a : Stp cs Av H cs' Av' H') (b : Stp cs' Av' H' cs2 Av2 H2) : Stp cs Av H cs2 Av2 H2 := by
  obtain ⟨e1, h1⟩ := a.pre
  obtain ⟨e2, h2⟩ := b.pre
  refine ⟨⟨e1 ++ e2, by rw [h2, h1, List.append_assoc]⟩, fun p o q n t => ?_, fun p h => ?_, fun p ps h => by
    obtain ⟨p1, z⟩ := a.tb p ps h
    exact b.tb p p1 z⟩
  · refine b.ext p o (a.ext p o q n t) (fun z => ?_) t
    rcases a.grow p z with z | z
    · exact n z
    · rw [q] at z; cases z
  · rcases b.grow p h with z | z
    · exact a.grow p z
    · cases q : H p with
      | none => exact .inr rfl
      | some o =>
        by_cases hp : Av p
        · exact .inl hp
        · by_cases ht : ∃ ps, o = .tbl ps
          · obtain ⟨ps, rfl⟩ := ht
            obtain ⟨p1, y⟩ := a.tb p ps q
            rw [z] at y; cases y
          · have := a.ext p o q hp fun ps y => ht ⟨ps, y⟩
            rw [z] at this; cases this
theorem Stp.of_ext (ok : AvOk cs Av H) (e : Ext cs H H') : Stp cs Av H cs Av H' := ⟨⟨[], by simp⟩, e.p fun a h => ok.sub a h, fun a h => .inl h, e.t⟩
/-- an expression has run -/
theorem SR.ext (s : SR K H0 Av0 cs Av H σ ρ st) (e : Ext cs H H') (cl : Cl K cs Av H' st') : SR K H0 Av0 cs Av H' σ ρ st' :=
  ⟨s.ok.ext e cl, cl, s.en.ext s.ok e, s.ex.trans e, s.low, s.sub, s.fr, s.inj⟩
mutual
theorem bind_own : ∀ {t : Tg} {d : D} {ρ ρ' : Rho} {j : Nat} {ds : List D}, bindTg t d ρ = some ρ' → ρ'[j]? = some (some (RV.o ds)) → ρ[j]? = some (some (RV.o ds)) ∧ j ∉ slotsOf t
  | .nm i, d, ρ, ρ', j, ds, e, h => by
    simp only [bindTg] at e
    cases e
    by_cases hj : i = j
    · subst hj
      by_cases hl : i < ρ.length
      · rw [List.getElem?_set_self hl] at h; cases h
      · rw [List.getElem?_eq_none (by simpa using hl)] at h; cases h
    · rw [List.getElem?_set_ne hj] at h
      exact ⟨h, by simpa [slotsOf] using fun z => hj z.symm⟩
  | .tp ts, .tuple xs, ρ, ρ', j, ds, e, h => by
    have := binds_own (by simpa only [bindTg] using e) h
    simpa only [slotsOf] using this
  | .tp ts, .none, _, _, _, _, e, _ => by simp [bindTg] at e
  | .tp ts, .bool _, _, _, _, _, e, _ => by simp [bindTg] at e
  | .tp ts, .int _, _, _, _, _, e, _ => by simp [bindTg] at e
  | .tp ts, .str _, _, _, _, _, e, _ => by simp [bindTg] at e
  | .tp ts, .list _, _, _, _, _, e, _ => by simp [bindTg] at e
  | .tp ts, .dict _, _, _, _, _, e, _ => by simp [bindTg] at e
theorem binds_own : ∀ {t : Tgs} {d : List D} {ρ ρ' : Rho} {j : Nat} {ds : List D}, bindTgs t d ρ = some ρ' → ρ'[j]? = some (some (RV.o ds)) → ρ[j]? = some (some (RV.o ds)) ∧ j ∉ slotsOfs t
  | .nil, [], ρ, ρ', j, ds, e, h => by
    simp only [bindTgs] at e; cases e
    exact ⟨h, by simp [slotsOfs]⟩
  | .nil, _ :: _, _, _, _, _, e, _ => by simp [bindTgs] at e
  | .cons _ _, [], _, _, _, _, e, _ => by simp [bindTgs] at e
  | .cons t r, d :: xs, ρ, ρ', j, ds, e, h => by
    simp only [bindTgs] at e
    split at e
    · rename_i ρ1 h1
      obtain ⟨a1, a2⟩ := binds_own e h
      obtain ⟨b1, b2⟩ := bind_own h1 a1
      exact ⟨b1, by simp [slotsOfs, a2, b2]⟩
    · cases e
end
/-- a target has been bound -/
theorem SR.bind {t : Tg} (s : SR K H0 Av0 cs Av H σ ρ st) (hb : bindTg t d ρ = some ρ') (ap : Apart (slotsOf t) σ σ') (en : En K cs Av H σ' ρ') : SR K H0 Av0 cs Av H σ' ρ' st := by
  have key : ∀ i a, OwnAt σ' ρ' i a → OwnAt σ ρ i a := fun i a ⟨ds, h1, h2⟩ => by
    obtain ⟨h3, h4⟩ := bind_own hb h1
    exact ⟨ds, h3, by rw [← ap.at_ i h4]; exact h2⟩
  exact ⟨s.ok, s.cl, en, s.ex, s.low, s.sub, fun i a h => s.fr i a (key i a h), fun i j a h h' => s.inj i j a (key i a h) (key j a h')⟩
/-- data into a slot -/
theorem SR.setV (s : SR K H0 Av0 cs Av H σ ρ st) (i : Nat) (r : Rp K cs Av H v d) : SR K H0 Av0 cs Av H (σ.set i (some v)) (ρ.set i (some (.v d))) st :=
  s.bind (t := .nm i) (d := d) (by simp only [bindTg]) (by simpa only [slotsOf] using Apart.set i _) (s.en.setV i r)
theorem own_lst (en : En K cs Av H σ ρ) {i : Nat} {a : Addr} (h : OwnAt σ ρ i a) : ∃ vs, H a = some (.lst vs) ∧ Av a ∧ a ∉ cs := by
  obtain ⟨ds, h1, h2⟩ := h
  obtain ⟨b, vs, e1, e2, e3, e4, _⟩ := slot_o en h1
  rw [h2] at e1
  cases e1
  exact ⟨vs, e4, e2, e3⟩
theorem en_new (en : En K cs Av H σ ρ) (ok : AvOk cs Av H) {a : Addr} (h0 : H a = none) (e : Ext cs H H') : En K cs (add Av a) H' σ ρ := by
  have hav : ∀ b, add Av a b → Av b ∨ H b = none := fun b hb => hb.imp id fun z => by rw [z]; exact h0
  refine ⟨en.len, fun i => ?_⟩
  exact ((en.at_ i).av hav (fun b h => .inl h)).p (ok.avd fun b h => .inl h) e.pc (fun b h => h)
/-- a new list, which a slot is to own -/
theorem SR.own0 (s : SR K H0 Av0 cs Av H σ ρ st) (e : Ext cs H H') (cl : Cl K cs Av H' st') {a : Addr} (r : RpS K cs Av H H' st' (.ref a) (.o ds)) :
    H a = none ∧ a ∉ cs ∧ H0 a = none ∧ SR K H0 Av0 cs (add Av a) H' σ ρ st' ∧ Stp cs Av H cs (add Av a) H' ∧ ∃ vs, H' a = some (.lst vs) ∧ Rps K cs (add Av a) H' vs ds := by
  obtain ⟨⟨b, vs, e1, h0, h1, rs⟩, hc⟩ := r
  cases e1
  have na : a ∉ cs := fun z => by
    obtain ⟨xs, q⟩ := s.ok.lst a (s.ok.sub a z)
    rw [h0] at q; cases q
  have h00 : H0 a = none := s.ex.no h0 na
  exact ⟨h0, na, h00, ⟨(s.ok.ext e cl).add h1, hc a ds rfl rfl, en_new s.en s.ok h0 e, s.ex.trans e, s.low, fun b h => .inl (s.sub b h), s.fr, s.inj⟩,
    ⟨⟨[], by simp⟩, e.p fun b h => s.ok.sub b h, fun b h => h.imp id fun z => by rw [z]; exact h0, e.t⟩, vs, h1, rs⟩
theorem SR.setO (s : SR K H0 Av0 cs Av H σ ρ st) (i : Nat) {a : Addr} (hA : Av a) (na : a ∉ cs) (h0 : H0 a = none) (hn : ∀ j, ¬ OwnAt σ ρ j a) (h1 : H a = some (.lst vs)) (rs : Rps K cs Av H vs ds) :
    SR K H0 Av0 cs Av H (σ.set i (some (.ref a))) (ρ.set i (some (.o ds))) st := by
  have key : ∀ j b, OwnAt (σ.set i (some (.ref a))) (ρ.set i (some (.o ds))) j b → (j = i ∧ b = a) ∨ (j ≠ i ∧ OwnAt σ ρ j b) := fun j b ⟨es, q1, q2⟩ => by
    by_cases hj : i = j
    · subst hj
      by_cases hl : i < σ.length
      · rw [List.getElem?_set_self hl] at q2
        cases q2
        exact .inl ⟨rfl, rfl⟩
      · rw [List.getElem?_eq_none (by simpa using hl)] at q2; cases q2
    · rw [List.getElem?_set_ne hj] at q1 q2
      exact .inr ⟨fun z => hj z.symm, es, q1, q2⟩
  refine ⟨s.ok, s.cl, ⟨by simp [s.en.len], fun j => ?_⟩, s.ex, s.low, s.sub, fun j b h => ?_, fun j k b h h' => ?_⟩
  · by_cases hj : i = j
    · subst hj
      by_cases hl : i < ρ.length
      · have hl' : i < σ.length := by rw [s.en.len]; exact hl
        rw [List.getElem?_set_self hl, List.getElem?_set_self hl']
        exact ⟨a, vs, rfl, hA, na, h1, rs⟩
      · rw [List.getElem?_eq_none (l := ρ.set i _) (by simpa using hl)]; trivial
    · rw [List.getElem?_set_ne hj, List.getElem?_set_ne hj]
      exact s.en.at_ j
  · rcases key j b h with ⟨_, rfl⟩ | ⟨_, h⟩
    · exact h0
    · exact s.fr j b h
  · rcases key j b h with ⟨rfl, rfl⟩ | ⟨h2, h⟩
    · rcases key k b h' with ⟨rfl, _⟩ | ⟨_, h'⟩
      · rfl
      · exact absurd h' (hn k)
    · rcases key k b h' with ⟨e1, e2⟩ | ⟨_, h'⟩
      · exact absurd (by rw [← e2]; exact h) (hn j)
      · exact s.inj j k b h h'
/-- a new list goes into a slot -/
theorem SR.own (s : SR K H0 Av0 cs Av H σ ρ st) (e : Ext cs H H') (cl : Cl K cs Av H' st') {a : Addr} (r : RpS K cs Av H H' st' (.ref a) (.o ds)) (i : Nat) :
    SR K H0 Av0 cs (add Av a) H' (σ.set i (some (.ref a))) (ρ.set i (some (.o ds))) st' ∧ Stp cs Av H cs (add Av a) H' := by
  obtain ⟨h0, na, h00, s', sp, vs, h1, rs⟩ := s.own0 e cl r
  refine ⟨s'.setO i (.inr rfl) na h00 (fun j h => ?_) h1 rs, sp⟩
  obtain ⟨ws, q, _⟩ := own_lst s.en h
  rw [h0] at q; cases q
/-- a list that a slot owns is data from now on -/
theorem SR.freeze (s : SR K H0 Av0 cs Av H σ ρ st) {i : Nat} (hi : ρ[i]? = some (some (RV.o ds))) :
    ∃ Av', SR K H0 Av0 cs Av' H σ (ρ.set i (some (.v (.list ds)))) st ∧ Stp cs Av H cs Av' H := by
  obtain ⟨a, vs, e1, e2, e3, e4, e5⟩ := slot_o s.en hi
  have oa : OwnAt σ ρ i a := ⟨ds, hi, e1⟩
  have hl : i < ρ.length := by
    rcases Nat.lt_or_ge i ρ.length with h | h
    · exact h
    · rw [List.getElem?_eq_none h] at hi; cases hi
  let Av' : Addr → Prop := fun b => Av b ∧ b ≠ a
  have hav : ∀ b, Av' b → Av b ∨ H b = none := fun b h => .inl h.1
  have h0 := s.fr i a oa
  have key : ∀ j b, OwnAt σ (ρ.set i (some (.v (.list ds)))) j b → j ≠ i ∧ OwnAt σ ρ j b := fun j b ⟨es, q1, q2⟩ => by
    by_cases hj : i = j
    · subst hj
      rw [List.getElem?_set_self hl] at q1; cases q1
    · rw [List.getElem?_set_ne hj] at q1
      exact ⟨fun z => hj z.symm, es, q1, q2⟩
  refine ⟨Av', ⟨⟨fun b hb => ⟨s.ok.sub b hb, fun z => e3 (by rw [← z]; exact hb)⟩, fun b hb => s.ok.lst b hb.1, s.ok.tab⟩, s.cl.av hav, ⟨by simp [s.en.len], fun j => ?_⟩, s.ex, s.low, fun b hb => ⟨s.sub b hb, fun z => ?_⟩, fun j b h => s.fr j b (key j b h).2, fun j k b h h' => s.inj j k b (key j b h).2 (key k b h').2⟩, ⟨[], by simp⟩, ExtP.refl, hav, fun b ps h => ⟨ps, h⟩⟩
  · by_cases hj : i = j
    · subst hj
      rw [List.getElem?_set_self hl]
      exact ⟨.ref a, e1, .lst (.inl fun z => z.2 rfl) (SqL.of e4) (e5.av hav)⟩
    · rw [List.getElem?_set_ne hj]
      have := s.en.at_ j
      match h : ρ[j]? with
      | none => trivial
      | some none => trivial
      | some (some (.v dd)) =>
        rw [h] at this
        obtain ⟨x, q1, q2⟩ := this
        exact ⟨x, q1, q2.av hav⟩
      | some (some (.o es)) =>
        rw [h] at this
        obtain ⟨b, ws, q1, q2, q3, q4, q5⟩ := this
        exact ⟨b, ws, q1, ⟨q2, fun z => hj (s.inj i j b (by rw [z]; exact oa) ⟨es, h, q1⟩)⟩, q3, q4, q5.av hav⟩
  · obtain ⟨o, q⟩ := s.low b hb
    rw [z, h0] at q; cases q
/-- a list that a slot owns is written -/
theorem SR.mut (s : SR K H0 Av0 cs Av H σ ρ st) {i : Nat} {a : Addr} {ds' : List D} {ws : List V} (hi : ρ[i]? = some (some (RV.o ds))) (ha : σ[i]? = some (some (.ref a))) (rs : Rps K cs Av H ws ds') :
    SR K H0 Av0 cs Av (upd H a (.lst ws)) σ (ρ.set i (some (.o ds'))) st ∧ Stp cs Av H cs Av (upd H a (.lst ws)) := by
  obtain ⟨a', vs, e1, e2, e3, e4, e5⟩ := slot_o s.en hi
  rw [ha] at e1
  cases e1
  have oa : OwnAt σ ρ i a := ⟨ds, hi, ha⟩
  have hl : i < ρ.length := by
    rcases Nat.lt_or_ge i ρ.length with h | h
    · exact h
    · rw [List.getElem?_eq_none h] at hi; cases hi
  have ap : Avd Av (· = a) H := ⟨fun b h => by rw [h]; exact e2, fun b h => by rw [h]; exact ⟨_, e4⟩⟩
  have ex : ExtP (· = a) H (upd H a (.lst ws)) := fun b o e ne _ => by rw [upd_ne ne]; exact e
  have h0 := s.fr i a oa
  have key : ∀ j b, OwnAt σ (ρ.set i (some (.o ds'))) j b → OwnAt σ ρ j b := fun j b ⟨es, q1, q2⟩ => by
    by_cases hj : i = j
    · subst hj; exact ⟨ds, hi, q2⟩
    · rw [List.getElem?_set_ne hj] at q1
      exact ⟨es, q1, q2⟩
  refine ⟨⟨⟨s.ok.sub, fun b hb => ?_, tabs_put s.ok.tab e4⟩, ⟨s.cl.len, s.cl.nd, fun n b es q1 q2 => ?_⟩, ⟨by simp [s.en.len], fun j => ?_⟩, ⟨fun b o q n t => ?_, fun b ps q => by
    obtain ⟨p1, z⟩ := s.ex.t b ps q
    exact tbl_put e4 z, fun t => tabs_put (s.ex.tab t) e4⟩, s.low, s.sub, fun j b h => s.fr j b (key j b h), fun j k b h h' => s.inj j k b (key j b h) (key k b h')⟩, ⟨[], by simp⟩, fun b o q n t => ?_, fun b h => .inl h, fun b ps q => tbl_put e4 q⟩
  · by_cases z : b = a
    · rw [z]; exact ⟨_, upd_same ..⟩
    · rw [upd_ne z]; exact s.ok.lst b hb
  · obtain ⟨us, q3, q4⟩ := s.cl.at_ n b es q1 q2
    have ne : b ≠ a := fun z => e3 (by rw [← z]; exact List.mem_of_getElem? q1)
    exact ⟨us, by rw [upd_ne ne]; exact q3, q4.p ap ex⟩
  · by_cases hj : i = j
    · subst hj
      rw [List.getElem?_set_self hl]
      exact ⟨a, ws, ha, e2, e3, upd_same .., rs.p ap ex⟩
    · rw [List.getElem?_set_ne hj]
      have := s.en.at_ j
      match h : ρ[j]? with
      | none => trivial
      | some none => trivial
      | some (some (.v dd)) =>
        rw [h] at this
        obtain ⟨x, q1, q2⟩ := this
        exact ⟨x, q1, q2.p ap ex⟩
      | some (some (.o es)) =>
        rw [h] at this
        obtain ⟨b, us, q1, q2, q3, q4, q5⟩ := this
        have ne : b ≠ a := fun z => hj (s.inj i j a oa (by rw [← z]; exact ⟨es, h, q1⟩))
        exact ⟨b, us, q1, q2, q3, by rw [upd_ne ne]; exact q4, q5.p ap ex⟩
  · rw [upd_ne (ne_of_none q h0)]; exact s.ex.k b o q n t
  · rw [upd_ne (fun z => n (by rw [z]; exact e2))]; exact q
/-- a cell is written -/
theorem SR.cell (s : SR K H0 Av0 cs Av H σ ρ st) {n : Nat} {a : Addr} {ds' : List D} {ws : List V} (hn : cs[n]? = some a) (hs : n < st.length) (rs : Rps K cs Av H ws ds') :
    SR K H0 Av0 cs Av (upd H a (.lst ws)) σ ρ (st.set n ds') ∧ Stp cs Av H cs Av (upd H a (.lst ws)) := by
  have hm : a ∈ cs := List.mem_of_getElem? hn
  obtain ⟨vs, e4, e5⟩ := s.cl.at_ n a _ hn (List.getElem?_eq_getElem hs)
  have e2 := s.ok.sub a hm
  have ap : Avd Av (· = a) H := ⟨fun b h => by rw [h]; exact e2, fun b h => by rw [h]; exact ⟨_, e4⟩⟩
  have ex : ExtP (· = a) H (upd H a (.lst ws)) := fun b o e ne _ => by rw [upd_ne ne]; exact e
  refine ⟨⟨⟨s.ok.sub, fun b hb => ?_, tabs_put s.ok.tab e4⟩, ⟨by simp [s.cl.len], s.cl.nd, fun m b es q1 q2 => ?_⟩, ⟨s.en.len, fun j => ?_⟩, ⟨fun b o q n t => ?_, fun b ps q => by
    obtain ⟨p1, z⟩ := s.ex.t b ps q
    exact tbl_put e4 z, fun t => tabs_put (s.ex.tab t) e4⟩, s.low, s.sub, s.fr, s.inj⟩, ⟨[], by simp⟩, fun b o q n t => ?_, fun b h => .inl h, fun b ps q => tbl_put e4 q⟩
  · by_cases z : b = a
    · rw [z]; exact ⟨_, upd_same ..⟩
    · rw [upd_ne z]; exact s.ok.lst b hb
  · by_cases hmn : n = m
    · subst hmn
      rw [hn] at q1
      cases q1
      rw [List.getElem?_set_self hs] at q2
      cases q2
      exact ⟨ws, upd_same .., rs.p ap ex⟩
    · rw [List.getElem?_set_ne hmn] at q2
      obtain ⟨us, q3, q4⟩ := s.cl.at_ m b es q1 q2
      have ne : b ≠ a := fun z => hmn (by
        subst z
        obtain ⟨l1, g1⟩ := List.getElem?_eq_some_iff.mp hn
        obtain ⟨l2, g2⟩ := List.getElem?_eq_some_iff.mp q1
        exact (List.getElem_inj s.cl.nd).mp (g1.trans g2.symm))
      exact ⟨us, by rw [upd_ne ne]; exact q3, q4.p ap ex⟩
  · have := s.en.at_ j
    match h : ρ[j]? with
    | none => trivial
    | some none => trivial
    | some (some (.v dd)) =>
      rw [h] at this
      obtain ⟨x, q1, q2⟩ := this
      exact ⟨x, q1, q2.p ap ex⟩
    | some (some (.o es)) =>
      rw [h] at this
      obtain ⟨b, us, q1, q2, q3, q4, q5⟩ := this
      have ne : b ≠ a := fun z => q3 (by rw [z]; exact hm)
      exact ⟨b, us, q1, q2, q3, by rw [upd_ne ne]; exact q4, q5.p ap ex⟩
  · rw [upd_ne (fun z => n (by rw [z]; exact hm))]; exact s.ex.k b o q n t
  · rw [upd_ne (fun z => n (by rw [z]; exact e2))]; exact q
mutual
theorem Rp.cs {e : List Addr} : ∀ {v : V} {d : D}, Rp K cs Av H v d → Rp K (cs ++ e) Av H v d
  | _, _, .non => .non
  | _, _, .bl b => .bl b
  | _, _, .int i => .int i
  | _, _, .str x => .str x
  | _, _, .lst na h r => .lst na h (Rps.cs r)
  | _, _, .tup h r => .tup h (Rps.cs r)
  | _, _, .cell h => .cell (by
      obtain ⟨l, g⟩ := List.getElem?_eq_some_iff.mp h
      rw [List.getElem?_append_left l]; exact h)
  | _, _, .dct h h0 hl r hk => .dct h h0 hl (Rps.cs r) hk
  | _, _, .dct0 h => .dct0 h
  | _, _, .exc hc h0 h1 h2 h3 h4 r => .exc hc h0 h1 h2 h3 h4 (Rp.cs r)
  | _, _, .clo hz h0 hc => .clo hz h0 hc
theorem Rps.cs {e : List Addr} : ∀ {vs : List V} {ds : List D}, Rps K cs Av H vs ds → Rps K (cs ++ e) Av H vs ds
  | _, _, .nil => .nil
  | _, _, .cons r t => .cons (Rp.cs r) (Rps.cs t)
end
/-- a list that a slot owns becomes a shared cell -/
theorem SR.mkcell (s : SR K H0 Av0 cs Av H σ ρ st) {i : Nat} (hi : ρ[i]? = some (some (RV.o ds))) :
    ∃ a, SR K H0 Av0 (cs ++ [a]) Av H σ (ρ.set i (some (.v (.dict [(.none, .int st.length)])))) (st ++ [ds]) ∧ Stp cs Av H (cs ++ [a]) Av H := by
  obtain ⟨a, vs, e1, e2, e3, e4, e5⟩ := slot_o s.en hi
  have oa : OwnAt σ ρ i a := ⟨ds, hi, e1⟩
  have hl : i < ρ.length := by
    rcases Nat.lt_or_ge i ρ.length with h | h
    · exact h
    · rw [List.getElem?_eq_none h] at hi; cases hi
  have key : ∀ j b, OwnAt σ (ρ.set i (some (.v (.dict [(.none, .int st.length)])))) j b → j ≠ i ∧ OwnAt σ ρ j b := fun j b ⟨es, q1, q2⟩ => by
    by_cases hj : i = j
    · subst hj
      rw [List.getElem?_set_self hl] at q1; cases q1
    · rw [List.getElem?_set_ne hj] at q1
      exact ⟨fun z => hj z.symm, es, q1, q2⟩
  refine ⟨a, ⟨⟨fun b hb => ?_, s.ok.lst, s.ok.tab⟩, ⟨by simp [s.cl.len], ?_, fun n b es q1 q2 => ?_⟩, ⟨by simp [s.en.len], fun j => ?_⟩, ⟨fun b o q n t => s.ex.k b o q (fun z => n (by simp [z])) t, s.ex.t, s.ex.tab⟩, s.low, s.sub, fun j b h => s.fr j b (key j b h).2, fun j k b h h' => s.inj j k b (key j b h).2 (key k b h').2⟩, ⟨[a], rfl⟩, ExtP.refl, fun b h => .inl h, fun b ps h => ⟨ps, h⟩⟩
  · rcases List.mem_append.mp hb with hb | hb
    · exact s.ok.sub b hb
    · rw [List.mem_singleton.mp hb]; exact e2
  · rw [List.nodup_append]
    exact ⟨s.cl.nd, by simp, fun x hx y hy => by rw [List.mem_singleton.mp hy]; exact fun z => e3 (by rw [← z]; exact hx)⟩
  · by_cases hn : n < cs.length
    · rw [List.getElem?_append_left hn] at q1
      rw [List.getElem?_append_left (by rw [← s.cl.len]; exact hn)] at q2
      obtain ⟨us, q3, q4⟩ := s.cl.at_ n b es q1 q2
      exact ⟨us, q3, q4.cs⟩
    · have hn' : cs.length ≤ n := Nat.le_of_not_lt hn
      rw [List.getElem?_append_right hn'] at q1
      rw [List.getElem?_append_right (by rw [← s.cl.len]; exact hn'), ← s.cl.len] at q2
      obtain ⟨m, hm⟩ : ∃ m, n - cs.length = m := ⟨_, rfl⟩
      rw [hm] at q1 q2
      cases m with
      | zero => simp at q1 q2; subst q1; subst q2; exact ⟨vs, e4, e5.cs⟩
      | succ m => simp at q1
  · by_cases hj : i = j
    · subst hj
      rw [List.getElem?_set_self hl]
      exact ⟨.ref a, e1, .cell (by rw [← s.cl.len]; simp)⟩
    · rw [List.getElem?_set_ne hj]
      have := s.en.at_ j
      match h : ρ[j]? with
      | none => trivial
      | some none => trivial
      | some (some (.v dd)) =>
        rw [h] at this
        obtain ⟨x, q1, q2⟩ := this
        exact ⟨x, q1, q2.cs⟩
      | some (some (.o es)) =>
        rw [h] at this
        obtain ⟨b, us, q1, q2, q3, q4, q5⟩ := this
        refine ⟨b, us, q1, q2, fun z => ?_, q4, q5.cs⟩
        rcases List.mem_append.mp z with z | z
        · exact q3 z
        · exact hj (s.inj i j b (by rw [List.mem_singleton.mp z]; exact oa) ⟨es, h, q1⟩)
end
end Ev

set_option Elab.async false
set_option linter.all false
set_option maxRecDepth 100000
set_option maxHeartbeats 4000000
/-! Statements: the look, and the small forms. -/
namespace Ev
variable [Zc]
open PySem PySem.Spec PyProof.Rows L2

/-! ### what a statement is -/
def getExpr : Stmt → Option Expr
  | .Expr e _ => some e
  | _ => none
def getAsgN : Stmt → Option (Str × Expr)
  | .Assign [.Name x _] e _ => some (x, e)
  | _ => none
def getAsgT : Stmt → Option (Expr × Expr)
  | .Assign [.Tuple es k p] e _ => some (.Tuple es k p, e)
  | _ => none
def getPar2 : Stmt → Option ((Str × Pos) × (Str × Pos) × Expr × Expr)
  | .Assign [.Tuple [.Name x px, .Name y py] _ _] (.Tuple [a, b] _ _) _ => some ((x, px), (y, py), a, b)
  | _ => none
def getPar3 : Stmt → Option ((Str × Pos) × (Str × Pos) × (Str × Pos) × Expr × Expr × Expr)
  | .Assign [.Tuple [.Name x px, .Name y py, .Name z pz] _ _] (.Tuple [a, b, c] _ _) _ => some ((x, px), (y, py), (z, pz), a, b, c)
  | _ => none
def getSet : Stmt → Option (Str × Expr × Expr)
  | .Assign [.Subscript (.Name x _) ix _] e _ => some (x, ix, e)
  | _ => none
def getSet2 : Stmt → Option ((Str × Expr) × (Str × Expr) × Expr × Expr)
  | .Assign [.Tuple [.Subscript (.Name x _) i1 _, .Subscript (.Name y _) i2 _] _ _] (.Tuple [a, b] _ _) _ => some ((x, i1), (y, i2), a, b)
  | _ => none
def getMeth : Stmt → Option (Str × Str × Pos × Expr × Pos)
  | .Expr (.Call (.Attribute (.Name x _) m ap) [e] [] cp) _ => some (x, m, ap, e, cp)
  | _ => none
def getRet : Stmt → Option Expr
  | .Return (some e) _ => some e
  | _ => none
def getIf : Stmt → Option (Expr × List Stmt × List Stmt)
  | .If c a b _ => some (c, a, b)
  | _ => none
def getFor : Stmt → Option (Expr × Expr × List Stmt)
  | .For t i b [] _ => some (t, i, b)
  | _ => none
def getWhile : Stmt → Option (Expr × List Stmt)
  | .While c b [] _ => some (c, b)
  | _ => none
def getRaise : Stmt → Option (Str × Expr)
  | .Raise (some (.Call (.Name x _) [a] [] _)) none _ => some (x, a)
  | _ => none
def isBrk : Stmt → Bool
  | .Break _ => true
  | _ => false
def isCont : Stmt → Bool
  | .Continue _ => true
  | _ => false
section
variable {st : Stmt}
theorem getExpr_eq {e} (h : getExpr st = some e) : ∃ p, st = .Expr e p := by
  unfold getExpr at h; split at h <;> cases h; exact ⟨_, rfl⟩
theorem getAsgN_eq {x e} (h : getAsgN st = some (x, e)) : ∃ px p, st = .Assign [.Name x px] e p := by
  unfold getAsgN at h; split at h <;> cases h; exact ⟨_, _, rfl⟩
theorem getAsgT_eq {t e} (h : getAsgT st = some (t, e)) : ∃ es k p1 p, t = .Tuple es k p1 ∧ st = .Assign [.Tuple es k p1] e p := by
  unfold getAsgT at h; split at h <;> cases h; exact ⟨_, _, _, _, rfl, rfl⟩
theorem getPar2_eq {x px y py a b} (h : getPar2 st = some ((x, px), (y, py), a, b)) : ∃ kt pt k2 pt2 p, st = .Assign [.Tuple [.Name x px, .Name y py] kt pt] (.Tuple [a, b] k2 pt2) p := by
  unfold getPar2 at h; split at h <;> cases h; exact ⟨_, _, _, _, _, rfl⟩
theorem getPar3_eq {x px y py z pz a b c} (h : getPar3 st = some ((x, px), (y, py), (z, pz), a, b, c)) : ∃ kt pt k2 pt2 p, st = .Assign [.Tuple [.Name x px, .Name y py, .Name z pz] kt pt] (.Tuple [a, b, c] k2 pt2) p := by
  unfold getPar3 at h; split at h <;> cases h; exact ⟨_, _, _, _, _, rfl⟩
theorem getSet_eq {x ix e} (h : getSet st = some (x, ix, e)) : ∃ px sp p, st = .Assign [.Subscript (.Name x px) ix sp] e p := by
  unfold getSet at h; split at h <;> cases h; exact ⟨_, _, _, rfl⟩
theorem getSet2_eq {x i1 y i2 a b} (h : getSet2 st = some ((x, i1), (y, i2), a, b)) : ∃ px sp py sq kt pt k2 pt2 p, st = .Assign [.Tuple [.Subscript (.Name x px) i1 sp, .Subscript (.Name y py) i2 sq] kt pt] (.Tuple [a, b] k2 pt2) p := by
  unfold getSet2 at h; split at h <;> cases h; exact ⟨_, _, _, _, _, _, _, _, _, rfl⟩
theorem getMeth_eq {x m ap e cp} (h : getMeth st = some (x, m, ap, e, cp)) : ∃ px p, st = .Expr (.Call (.Attribute (.Name x px) m ap) [e] [] cp) p := by
  unfold getMeth at h; split at h <;> cases h; exact ⟨_, _, rfl⟩
theorem getRet_eq {e} (h : getRet st = some e) : ∃ p, st = .Return (some e) p := by
  unfold getRet at h; split at h <;> cases h; exact ⟨_, rfl⟩
theorem getIf_eq {c a b} (h : getIf st = some (c, a, b)) : ∃ p, st = .If c a b p := by
  unfold getIf at h; split at h <;> cases h; exact ⟨_, rfl⟩
theorem getFor_eq {t i b} (h : getFor st = some (t, i, b)) : ∃ p, st = .For t i b [] p := by
  unfold getFor at h; split at h <;> cases h; exact ⟨_, rfl⟩
theorem getWhile_eq {c b} (h : getWhile st = some (c, b)) : ∃ p, st = .While c b [] p := by
  unfold getWhile at h; split at h <;> cases h; exact ⟨_, rfl⟩
theorem getRaise_eq {x a} (h : getRaise st = some (x, a)) : ∃ px pc p, st = .Raise (some (.Call (.Name x px) [a] [] pc)) none p := by
  unfold getRaise at h; split at h <;> cases h; exact ⟨_, _, _, rfl⟩
theorem isBrk_eq (h : isBrk st = true) : ∃ p, st = .Break p := by
  cases st <;> first | exact ff h | exact ⟨_, rfl⟩
theorem isCont_eq (h : isCont st = true) : ∃ p, st = .Continue p := by
  cases st <;> first | exact ff h | exact ⟨_, rfl⟩
end
/-! ### the look -/
def noComp : Expr → Bool
  | .ListComp .. => false
  | .SetComp .. => false
  | .DictComp .. => false
  | _ => true
def isLc (sc : Scope) (x : Str) : Bool := match sc.names.lookup x with
  | some .local => true | some .cell => true | _ => false
def isLoc1 (sc : Scope) (x : Str) : Bool := match sc.names.lookup x with
  | some .local => true | _ => false
/-- a tuple display on the right that is folded, or no display -/
def tupOk : Expr → Bool
  | .Tuple vs _ _ => vs.all (foldedForSure 8)
  | _ => true
def swOk (vs : List Expr) : Bool := !(vs.all (foldedForSure 8)) && !(vs.all (constantsAlone 8))
def chkNm (G : Ga) (sc : Scope) (i : Nat) (x : Str) : Bool := nmIs G.N i x && isLc sc x
/-- a name of the frame, read -/
def chkRd (G : Ga) (sc : Scope) (i : Nat) (x : Str) : Bool := nmIs G.N i x && isVis sc x && okN x
def chkMeth (G : Ga) (sc : Scope) (i : Nat) (ce : CE) (nm : Str) (st : Stmt) : Bool := match getMeth st with
  | some (x, m, ap, e, cp) => m == nm && (chkRd G sc i x && (plainE e && (chkE G sc false ce e && ap.endLine == cp.line)))
  | none => false
/-- x.append(y.pop(e)) -/
def getPop : Expr → Option (Str × Pos × Expr × Pos)
  | .Call (.Attribute (.Name y _) m bp) [e] [] cp => if m = ("pop" : Str) then some (y, bp, e, cp) else none
  | _ => none
def chkAP (G : Ga) (sc : Scope) (t i : Nat) (ce : CE) (st : Stmt) : Bool := match getMeth st with
  | some (x, m, ap, z, cp) => match getPop z with
    | some (y, bp, e, cp') => m == ("append" : Str) && (chkRd G sc t x && (chkRd G sc i y && (plainE e && (chkE G sc false ce e && (ap.endLine == cp.line && bp.endLine == cp'.line)))))
    | none => false
  | none => false
def chkPar (G : Ga) (sc : Scope) (is : List (Nat × Bool)) (es : CEs) (st : Stmt) : Bool := match is, es with
  | [(i, _), (j, _)], .cons false ca (.cons false cb .nil) => match getPar2 st with
    | some ((x, px), (y, py), a, b) => decide (i ≠ j) && (x != y && (nmIs G.N i x && (nmIs G.N j y && (isLoc1 sc x && (isLoc1 sc y && (px.line == py.line && (plainE a && (plainE b && (chkE G sc false ca a && (chkE G sc false cb b && swOk [a, b]))))))))))
    | none => false
  | [(i, _), (j, _), (l, _)], .cons false ca (.cons false cb (.cons false cc .nil)) => match getPar3 st with
    | some ((x, px), (y, py), (z, pz), a, b, c) => decide (i ≠ j) && (decide (i ≠ l) && (decide (j ≠ l) && (x != y && (x != z && (y != z && (nmIs G.N i x && (nmIs G.N j y && (nmIs G.N l z && (isLoc1 sc x && (isLoc1 sc y && (isLoc1 sc z && (px.line == py.line && (px.line == pz.line &&
        (plainE a && (plainE b && (plainE c && (chkE G sc false ca a && (chkE G sc false cb b && (chkE G sc false cc c && swOk [a, b, c])))))))))))))))))))
    | none => false
  | _, _ => false
def chkPn (G : Ga) (sc : Scope) : List (Nat × Bool) → List Expr → Bool
  | [], [] => true
  | (i, _) :: is, .Name x _ :: ts => nmIs G.N i x && (isLc sc x && chkPn G sc is ts)
  | _, _ => false
def celled (sc : Scope) : Expr → Bool
  | .Name x _ => !isLoc1 sc x
  | _ => true
def chkParC (G : Ga) (sc : Scope) (is : List (Nat × Bool)) (es : CEs) (st : Stmt) : Bool := match getAsgT st with
  | some (.Tuple ts _ _, .Tuple vs _ _) => chkPn G sc is ts && (chkAs G sc false es vs && (decide (ts.length ≤ 10) && (decide (vs.length = ts.length) && ts.any (celled sc))))
  | _ => false
mutual
def chkS (G : Ga) (sc : Scope) : CS → Stmt → Bool
  | .expr ce, st => match getExpr st with
    | some e => chkE G sc false ce e && noComp e
    | none => false
  | .asg (.nm i) ce, st => match getAsgN st with
    | some (x, e) => chkNm G sc i x && chkE G sc false ce e
    | none => false
  | .asg (.tp ts) ce, st => match getAsgT st with
    | some (t, e) => chkT G (fun _ => true) sc (.tp ts) t && (chkE G sc false ce e && tupOk e)
    | none => false
  | .asgO i ce, st => match getAsgN st with
    | some (x, e) => chkNm G sc i x && chkE G sc false ce e
    | none => false
  | .par is es, st => chkPar G sc is es st || chkParC G sc is es st
  | .setS i cx ce, st => match getSet st with
    | some (x, ix, e) => chkRd G sc i x && (chkE G sc false cx ix && (chkE G sc false ce e && plainSub ix))
    | none => false
  | .setS2 i c1 c2 ce1 ce2, st => match getSet2 st with
    | some ((x, i1), (y, i2), e1, e2) => chkRd G sc i x && (chkRd G sc i y && (chkE G sc false c1 i1 && (chkE G sc false c2 i2 && (chkE G sc false ce1 e1 && (chkE G sc false ce2 e2 && (plainSub i1 && (plainSub i2 && (plainE e1 && plainE e2))))))))
    | none => false
  | .setC i cx ce, st => match getSet st with
    | some (x, ix, e) => chkRd G sc i x && (chkE G sc false cx ix && (chkE G sc false ce e && plainSub ix))
    | none => false
  | .app i ce, st => chkMeth G sc i ce "append" st
  | .ext i ce, st => chkMeth G sc i ce "extend" st
  | .popAt i ce, st => chkMeth G sc i ce "pop" st
  | .appPop t i ce, st => chkAP G sc t i ce st
  | .ret ce, st => match getRet st with
    | some e => chkE G sc false ce e
    | none => false
  | .retO i, st => match getRet st with
    | some (.Name x _) => chkRd G sc i x
    | _ => false
  | .ite c a b, st => match getIf st with
    | some (e, sa, sb) => chkE G sc false c e && (chkSs G sc a sa && chkSs G sc b sb)
    | none => false
  | .for_ t it b, st => match getFor st with
    | some (te, ie, sb) => chkT G (fun _ => true) sc t te && (chkI G sc false it te ie && (itOk ie && chkSs G sc b sb))
    | none => false
  | .while_ c b, st => match getWhile st with
    | some (e, sb) => chkE G sc false c e && chkSs G sc b sb
    | none => false
  | .brk, st => isBrk st
  | .cont, st => isCont st
  | .bad, _ => true
  | .raise c e, st => match getRaise st with
    | some (x, a) => x == c && isGl sc x && okN x && G.er.contains x && plainE a && chkE G sc false e a
    | none => false
  | .freeze _, _ => false
  | .mkcell _, _ => false
  | .cgt _ _ _, _ => false
  | .cret _ _, _ => false
def chkSs (G : Ga) (sc : Scope) : CSs → List Stmt → Bool
  | .nil, [] => true
  | .cons (.freeze _) r, l => chkSs G sc r l
  | .cons (.mkcell _) r, l => chkSs G sc r l
  | .cons s r, st :: l => chkS G sc s st && chkSs G sc r l
  | _, _ => false
end

/-! ### the readings -/
structure Cq (G : Ga) (F : FT) (k : Nat) (X : Cx) : Prop where
  c : Cd G F k X
  hx : X.xe = fun _ _ => False
  fn : ∀ x, X.fn x = true
  kd : X.env.scope.kind = .function
def Post (K : PySem.W.Frag) (H0 : Hp) (Av0 : Addr → Prop) (cs : List Addr) (Av : Addr → Prop) (H : Hp) (D : Ends) : Fl → Prop
  | .nx ρ st => ∀ cs' Av' H' σ', Stp cs Av H cs' Av' H' → SR K H0 Av0 cs' Av' H' σ' ρ st → D.nx σ' H'
  | .bk ρ st => ∀ cs' Av' H' σ', Stp cs Av H cs' Av' H' → SR K H0 Av0 cs' Av' H' σ' ρ st → D.bk σ' H'
  | .ct ρ st => ∀ cs' Av' H' σ', Stp cs Av H cs' Av' H' → SR K H0 Av0 cs' Av' H' σ' ρ st → D.ct σ' H'
  | .rt r st => ∀ cs' Av' H' v, Stp cs Av H cs' Av' H' → Cl K cs' Av' H' st → Ext cs' H0 H' → (∀ a, Av0 a → Av' a) → RpS K cs' Av' H0 H' st v r → D.rt v H'
def tSt (K : PySem.W.Frag) (F : FT) (W : Nat) (s : CS) : TS := fun D σ H => ∃ (H0 : Hp) (Av0 : Addr → Prop) (cs : List Addr) (Av : Addr → Prop) (ρ : Rho) (st : Sto) (fl : Fl),
  SR K H0 Av0 cs Av H σ ρ st ∧ evS F W s ρ st = some fl ∧ Post K H0 Av0 cs Av H D fl
def tSs (K : PySem.W.Frag) (F : FT) (W : Nat) (s : CSs) : TS := fun D σ H => ∃ (H0 : Hp) (Av0 : Addr → Prop) (cs : List Addr) (Av : Addr → Prop) (ρ : Rho) (st : Sto) (fl : Fl),
  SR K H0 Av0 cs Av H σ ρ st ∧ evSs F W s ρ st = some fl ∧ Post K H0 Av0 cs Av H D fl
structure SS (G : Ga) (F : FT) (k W : Nat) (s : CS) : Prop where
  s : ∀ {X : Cx} {st : Stmt}, Cq G F k X → chkS G X.env.scope s st = true → PS X st (tSt X.K F W s)
structure SSs (G : Ga) (F : FT) (k W : Nat) (s : CSs) : Prop where
  s : ∀ {X : Cx} {l : List Stmt}, Cq G F k X → chkSs G X.env.scope s l = true → PSs X l (tSs X.K F W s)
section
variable {K : PySem.W.Frag} {cs cs' : List Addr} {Av0 Av Av' : Addr → Prop} {H0 H H' : Hp} {D : Ends} {fl : Fl}
theorem Post.step (a : Stp cs Av H cs' Av' H') (p : Post K H0 Av0 cs Av H D fl) : Post K H0 Av0 cs' Av' H' D fl := by
  cases fl with
  | nx ρ st => exact fun c2 A2 H2 σ2 s => p c2 A2 H2 σ2 (a.trans s)
  | bk ρ st => exact fun c2 A2 H2 σ2 s => p c2 A2 H2 σ2 (a.trans s)
  | ct ρ st => exact fun c2 A2 H2 σ2 s => p c2 A2 H2 σ2 (a.trans s)
  | rt r st => exact fun c2 A2 H2 v s => p c2 A2 H2 v (a.trans s)
theorem PSimp {X : Cx} {e : Stmt} {t t' : TS} (h : PS X e t) (i : ∀ D σ H, t' D σ H → t D σ H) : PS X e t' := ⟨fun pins s σ H D I hw => h.run pins s σ H D I (i D σ H hw)⟩
theorem PSsimp {X : Cx} {e : List Stmt} {t t' : TS} (h : PSs X e t) (i : ∀ D σ H, t' D σ H → t D σ H) : PSs X e t' := ⟨fun pins s σ H D I hw => h.run pins s σ H D I (i D σ H hw)⟩
end
section
variable {G : Ga} {F : FT} {k W : Nat} {X : Cx}
theorem Cq.hp (c : Cq G F k X) : PassesOwn (model X.prog X.w) X.A X.env X.xe := by
  rw [c.hx]
  exact PassesOwn.never
theorem swN {e : Expr} (h : noComp e = true) (o : Option Expr) (l : Nat) (env : Env) : swapsWith e o l env = pure false := by
  cases e <;> first | rfl | exact ff h
/-- an expression, from a place of the body -/
theorem ss_expr {ce : CE} : SS G F k W (.expr ce) := ⟨fun {X st} c h => by
  unfold chkS at h
  split at h
  · rename_i e hg
    obtain ⟨p, rfl⟩ := getExpr_eq hg
    simp only [Bool.and_eq_true] at h
    refine PSimp (ps_expr ((sE G F k ce).s c.c h.1) (swN h.2 _ _ _)) fun D σ H ⟨H0, Av0, cs, Av, ρ, st, fl, s, he, q⟩ => ?_
    simp only [evS] at he
    split at he
    · rename_i r st1 e1
      cases he
      exact ⟨cs, Av, ρ, st, r, st1, s.ok, s.cl, s.en, e1, fun v H' x c' rp => q cs Av H' σ (Stp.of_ext s.ok x) (s.ext x c')⟩
    · cases he
  · cases h⟩
theorem chkNm_of {i : Nat} {x : Str} (c : Cq G F k X) (h : chkNm G X.env.scope i x = true) : X.N[i]? = some x ∧ Loc X.env.scope x := by
  unfold chkNm at h
  simp only [Bool.and_eq_true] at h
  refine ⟨by rw [c.c.N]; exact nmIs_of h.1, ?_⟩
  have h2 := h.2
  unfold isLc at h2
  split at h2
  · exact .inl (by assumption)
  · exact .inr (by assumption)
  · cases h2
/-- name = e: e any expression, a comprehension too -/
theorem ps_name {i : Nat} {x : Str} {px p : Pos} {ce : CE} {e : Expr} (c : Cq G F k X) (hn : chkNm G X.env.scope i x = true) (he : chkE G X.env.scope false ce e = true) :
    PS X (.Assign [.Name x px] e p) (tAsg (tS X.K F ce) (gName i)) := by
  obtain ⟨h1, h2⟩ := chkNm_of c hn
  have hN : X.N.Nodup := by rw [c.c.N]; exact c.c.nd
  by_cases hc : noComp e = true
  · exact ps_set hN h1 h2 ((sE G F k ce).s c.c he) (swN hc _ _ _) (.inl (c.fn x))
  · cases e
    case ListComp y gs scope lp =>
      -- the walk of the comprehension, as a value or stored at once
      have sw : swapsWith (.ListComp y gs scope lp) (some (.Name x px)) p.line X.env = pure (X.env.blockKind == .function && X.env.kindOf x == some .local && px.line == lp.line && !(scope.names.any fun (n, k) => n == x && (k == .local || k == .cell))) := rfl
      cases hb : (X.env.blockKind == .function && X.env.kindOf x == some .local && px.line == lp.line && !(scope.names.any fun (n, k) => n == x && (k == .local || k == .cell))) with
      | false =>
        rw [hb] at sw
        exact ps_set hN h1 h2 ((sE G F k ce).s c.c he) sw (.inl (c.fn x))
      | true =>
        rw [hb] at sw
        simp only [Bool.and_eq_true] at hb
        have hl : X.env.scope.names.lookup x = some .local := by
          have := hb.1.1.2
          simpa [Env.kindOf] using this
        have finC : ∀ {own tg it ifs elt}, ce = .comp own tg it ifs elt → PS X (.Assign [.Name x px] (.ListComp y gs scope lp) p) (tAsg (tS X.K F ce) (gName i)) := fun {own tg it ifs elt} hce => by
          subst hce
          obtain ⟨y', t, i', fs, scope', p', e0, h1', h2', h3', h4', h5', h6', h7'⟩ := inv_comp he
          cases e0
          rw [Bool.or_eq_true] at h6'
          by_cases h6c : chkE G.nl (relS scope X.env.scope) false elt y = true
          case neg =>
            rw [Bool.and_eq_true] at h6'
            have h6' := h6'.resolve_left h6c
            exact ps_setCl c.c (sI G F k it) (sFs G.nl F k ifs) h1 hl sw h1' h2' h3' h4' h5' h6'.1 h6'.2 h7'
          have h6' := h6c
          have hblk := blkOk_by (by rw [c.c.N]; exact h1' : blkC X.N X.env.scope scope (chkOwn G.N own) = true)
          refine PSimp (ps_setLc (own := chkOwn G.N own) c.c.calm hN h1 hl sw ((sI G F k it).i c.c h2') hblk (g := tG X.K tg) (tt := tF X.K F ifs) (te := tS X.K F elt)
            (fun s H C cl fp => tg_ok (fp := fun x => scope.names.lookup x == some .cell) (c.c.blk s H scope C cl fp) (fun x hx => hx) h4') (fun s H C cl fp => (sFs G.nl F k ifs).f (c.c.blk s H scope C cl fp) h5') (fun s H C cl fp => (sE G.nl F k elt).s (c.c.blk s H scope C cl fp) h6') (foldOk h7' _)) fun D σ H h' => ?_
          rw [own_map]
          exact comp_imp h3' (pr_tp h2' h4') (fun _ _ _ _ z => z) h'
        have finC2 : ∀ {own tg it ifs tg1 it1 ifs1 elt}, ce = .comp2 own tg it ifs tg1 it1 ifs1 elt → PS X (.Assign [.Name x px] (.ListComp y gs scope lp) p) (tAsg (tS X.K F ce) (gName i)) := fun {own tg it ifs tg1 it1 ifs1 elt} hce => by
          subst hce
          obtain ⟨y', t, i', fs, t1, i1, fs1, scope', p', e0, h1', h2', h3', h4', h5', h6', h7', h8', h9', h10', h11', h12'⟩ := inv_comp2 he
          cases e0
          have hblk := blkOk_by (by rw [c.c.N]; exact h1' : blkC X.N X.env.scope scope (chkOwn G.N own) = true)
          refine PSimp (ps_setLc2 (own := chkOwn G.N own) (vs1 := slotsOf tg1) c.c.calm hN h1 hl sw ((sI G F k it).i c.c h2') hblk (by rw [own_map]; exact tgIn_of h7') (g := tG X.K tg) (tt := tF X.K F ifs) (wi1 := tI X.K F it1 false) (g1 := tG X.K tg1) (tt1 := tF X.K F ifs1) (te := tS X.K F elt)
            (fun s H C cl fp => tg_ok (fp := fun x => scope.names.lookup x == some .cell) (c.c.blk s H scope C cl fp) (fun x hx => hx) h4') (fun s H C cl fp => (sFs G.nl F k ifs).f (c.c.blk s H scope C cl fp) h5')
            (fun s H C cl fp => (sI G.nl F k it1).i (c.c.blk s H scope C cl fp) h6') (fun s H C cl fp => tg_ok (fp := fun x => scope.names.lookup x == some .cell) (c.c.blk s H scope C cl fp) (fun x hx => hx) h8') (fun s H C cl fp => (sFs G.nl F k ifs1).f (c.c.blk s H scope C cl fp) h9')
            (fun s H C cl fp => (sE G.nl F k elt).s (c.c.blk s H scope C cl fp) h10') (foldOk h11' _) (fun env => foldOk h12' env)) fun D σ H h' => ?_
          rw [own_map]
          exact comp2_imp h3' (pr_tp h2' h4') (pr_tp h6' h8') h'
        cases ce
        case comp => exact finC rfl
        case comp2 => exact finC2 rfl
        all_goals exact ff he
    all_goals first | exact absurd rfl hc | exact ff he | (cases ce <;> exact ff he)
end
end Ev

set_option Elab.async false
set_option linter.all false
set_option maxRecDepth 100000
set_option maxHeartbeats 4000000
/-! Statements, one rule for each form. -/
namespace Ev
variable [Zc]
open PySem PySem.Spec PyProof.Rows L2
section
variable {G : Ga} {F : FT} {k W : Nat} {X : Cx}
theorem chkRd_ok (c : Cq G F k X) {i : Nat} {x : Str} {p : Pos} (h : chkRd G X.env.scope i x = true) : PE X (.Name x p) (tVar i) := var_ok c.c h
theorem ss_asgN {i : Nat} {ce : CE} : SS G F k W (.asg (.nm i) ce) := ⟨fun {X st} c h => by
  unfold chkS at h
  split at h
  · rename_i x e hg
    obtain ⟨px, p, rfl⟩ := getAsgN_eq hg
    simp only [Bool.and_eq_true] at h
    refine PSimp (ps_name c h.1 h.2) fun D σ H ⟨H0, Av0, cs, Av, ρ, st, fl, s, he, q⟩ => ?_
    simp only [evS] at he
    split at he
    · rename_i r st1 e1
      simp only [bindTg] at he
      cases he
      refine ⟨cs, Av, ρ, st, r, st1, s.ok, s.cl, s.en, e1, fun v H' x c' rp => ?_⟩
      exact q cs Av H' _ (Stp.of_ext s.ok x) ((s.ext x c').setV i (rp.1.rp s.ok.there))
    · cases he
  · cases h⟩
theorem sw_tp {e : Expr} {es : List Expr} {kk : Nat} {p : Pos} (l : Nat) (env : Env) : swapsWithSole [.Tuple es kk p] e l env = pure false := by
  cases e <;> rfl
theorem swS_tp {e : Expr} {es : List Expr} {kk : Nat} {p : Pos} (h : tupOk e = true) (env : Env) : swappedStores [.Tuple es kk p] e env = pure none := by
  cases e
  case Tuple vs k2 p2 =>
    have h : vs.all (foldedForSure 8) = true := h
    unfold swappedStores
    simp only [h, if_true]
    repeat' split
    all_goals rfl
  all_goals rfl
theorem ss_asgT {ts : Tgs} {ce : CE} : SS G F k W (.asg (.tp ts) ce) := ⟨fun {X st} c h => by
  unfold chkS at h
  split at h
  · rename_i t e hg
    obtain ⟨es, kk, p1, p, rfl, rfl⟩ := getAsgT_eq hg
    simp only [Bool.and_eq_true] at h
    refine PSimp (ps_asg ((sE G F k ce).s c.c h.2.1) (tg_ok (fp := fun _ => true) c.c (fun x _ => c.fn x) h.1) (sw_tp _ _) (swS_tp h.2.2 _) rfl) fun D σ H ⟨H0, Av0, cs, Av, ρ, st, fl, s, he, q⟩ => ?_
    simp only [evS] at he
    split at he
    · rename_i r st1 e1
      split at he
      · rename_i ρ1 hb
        cases he
        refine ⟨cs, Av, ρ, st, r, st1, s.ok, s.cl, s.en, e1, fun v H' x c' rp => ?_⟩
        have s' := s.ext x c'
        exact ⟨cs, Av, ρ, r.d, ρ1, s'.en, (.inl (rp.1.rp s.ok.there)), hb, fun σ' ap en => q cs Av H' σ' (Stp.of_ext s.ok x) (s'.bind hb ap en)⟩
      · cases he
    · cases he
  · cases h⟩
theorem ss_asgO {i : Nat} {ce : CE} : SS G F k W (.asgO i ce) := ⟨fun {X st} c h => by
  unfold chkS at h
  split at h
  · rename_i x e hg
    obtain ⟨px, p, rfl⟩ := getAsgN_eq hg
    simp only [Bool.and_eq_true] at h
    refine PSimp (ps_name c h.1 h.2) fun D σ H ⟨H0, Av0, cs, Av, ρ, st, fl, s, he, q⟩ => ?_
    simp only [evS] at he
    split at he
    · rename_i ds st1 e1
      cases he
      refine ⟨cs, Av, ρ, st, .o ds, st1, s.ok, s.cl, s.en, e1, fun v H' x c' rp => ?_⟩
      obtain ⟨a, vs, rfl, _⟩ := rp.1
      obtain ⟨s', sp⟩ := s.own x c' rp i
      exact q cs _ H' _ sp s'
    · cases he
  · cases h⟩

/-! ### a, b = x, y -/
theorem isLoc1_of {sc : Scope} {x : Str} (h : isLoc1 sc x = true) : sc.names.lookup x = some .local := by
  unfold isLoc1 at h
  split at h
  · assumption
  · cases h
theorem blk_fn (c : Cq G F k X) : (X.env.blockKind != .function) = false := by
  unfold Env.blockKind
  rw [c.kd]
  rfl
def isStar : Expr → Bool
  | .Starred .. => true
  | _ => false
theorem notStar {e : Expr} (h : plainE e = true) : isStar e = false := by
  cases e <;> first | rfl | exact ff h
theorem kindOf_eq {env : Env} {x : Str} (h : env.scope.names.lookup x = some .local) : (env.kindOf x == some .local) = true := by
  unfold Env.kindOf
  rw [h]
  rfl
def nameAt (env : Env) (line : Nat) : Expr → Option Str
  | .Name id pos => if env.kindOf id == some .local && pos.line == line then some id else none
  | _ => none
theorem swS_gen {ts vs : List Expr} {kt k2 : Nat} {pt pt2 : Pos} {env : Env} {names : List Str} (hl : (!(ts.length == 2 || ts.length == 3) || vs.length != ts.length || env.blockKind != .function) = false) (hs : vs.any isStar = false)
    (hn : ts.filterMap (nameAt env ((ts.head?.map (·.pos.line)).getD 0)) = names) (hm : (names.length != ts.length || names.eraseDups.length != names.length) = false) (h1 : vs.all (foldedForSure 8) = false) (h2 : vs.all (constantsAlone 8) = false) :
    swappedStores [.Tuple ts kt pt] (.Tuple vs k2 pt2) env = pure (some names) := by
  have e : swappedStores [.Tuple ts kt pt] (.Tuple vs k2 pt2) env = (if (!(ts.length == 2 || ts.length == 3) || vs.length != ts.length || env.blockKind != .function) = true then pure none else if vs.any isStar = true then pure none else
    if ((ts.filterMap (nameAt env ((ts.head?.map (·.pos.line)).getD 0))).length != ts.length || (ts.filterMap (nameAt env ((ts.head?.map (·.pos.line)).getD 0))).eraseDups.length != (ts.filterMap (nameAt env ((ts.head?.map (·.pos.line)).getD 0))).length) = true then pure none else
    if vs.all (foldedForSure 8) = true then pure none else if vs.all (constantsAlone 8) = true then (do unsupported "assign.tuple-of-constant-expressions:order-of-the-stores"; pure (some (ts.filterMap (nameAt env ((ts.head?.map (·.pos.line)).getD 0))))) else pure (some (ts.filterMap (nameAt env ((ts.head?.map (·.pos.line)).getD 0))))) := by
    unfold swappedStores
    rfl
  rw [e, hn, hl, hs, hm, h1, h2]
  rfl
theorem swS_2 (c : Cq G F k X) {x y : Str} {px py pt pt2 : Pos} {kt k2 : Nat} {a b : Expr} (hxy : x ≠ y) (hx : X.env.scope.names.lookup x = some .local) (hy : X.env.scope.names.lookup y = some .local) (hl : (px.line == py.line) = true)
    (pa : plainE a = true) (pb : plainE b = true) (h : swOk [a, b] = true) : swappedStores [.Tuple [.Name x px, .Name y py] kt pt] (.Tuple [a, b] k2 pt2) X.env = pure (some [x, y]) := by
  unfold swOk at h
  simp only [Bool.and_eq_true, Bool.not_eq_true'] at h
  have hl' := eq_of_beq hl
  refine swS_gen (by simp [blk_fn c]) (by simp [notStar pa, notStar pb]) ?_ ?_ h.1 h.2
  · simp [nameAt, Expr.pos, eq_of_beq (kindOf_eq hx), eq_of_beq (kindOf_eq hy), hl']
  · simp [List.eraseDups_cons, hxy, Ne.symm hxy]
theorem swS_3 (c : Cq G F k X) {x y z : Str} {px py pz pt pt2 : Pos} {kt k2 : Nat} {a b d : Expr} (hxy : x ≠ y) (hxz : x ≠ z) (hyz : y ≠ z) (hx : X.env.scope.names.lookup x = some .local) (hy : X.env.scope.names.lookup y = some .local) (hz : X.env.scope.names.lookup z = some .local) (hl : (px.line == py.line) = true) (hm : (px.line == pz.line) = true)
    (pa : plainE a = true) (pb : plainE b = true) (pd : plainE d = true) (h : swOk [a, b, d] = true) : swappedStores [.Tuple [.Name x px, .Name y py, .Name z pz] kt pt] (.Tuple [a, b, d] k2 pt2) X.env = pure (some [x, y, z]) := by
  unfold swOk at h
  simp only [Bool.and_eq_true, Bool.not_eq_true'] at h
  have hl' := eq_of_beq hl
  have hm' := eq_of_beq hm
  refine swS_gen (by simp [blk_fn c]) (by simp [notStar pa, notStar pb, notStar pd]) ?_ ?_ h.1 h.2
  · simp [nameAt, Expr.pos, eq_of_beq (kindOf_eq hx), eq_of_beq (kindOf_eq hy), eq_of_beq (kindOf_eq hz), ← hl', ← hm']
  · simp [List.eraseDups_cons, hxy, Ne.symm hxy, hxz, Ne.symm hxz, hyz, Ne.symm hyz]
def setAll (σ : L2.St) : List (Nat × Bool) → List V → L2.St
  | (i, _) :: is, v :: vs => setAll (σ.set i (some v)) is vs
  | _, _ => σ
def tPr (K : PySem.W.Frag) (F : FT) (is : List (Nat × Bool)) (es : CEs) : TA := fun σ H Q => ∃ (H0 : Hp) (Av0 : Addr → Prop) (cs : List Addr) (Av : Addr → Prop) (ρ ρ1 ρ' : Rho) (σ1 : L2.St) (st st' : Sto),
  SR K H0 Av0 cs Av H σ ρ st ∧ SR K H0 Av0 cs Av H σ1 ρ1 st ∧ evPar F is es ρ ρ1 st = some (ρ', st') ∧ ∀ vs H' Av', vs.length = is.length → Stp cs Av H cs Av' H' → SR K H0 Av0 cs Av' H' (setAll σ1 is vs) ρ' st' → Q vs H'
theorem par_ok (c : Cq G F k X) : ∀ {is : List (Nat × Bool)} {es : CEs} {l : List Expr}, chkAs G X.env.scope false es l = true → PA X l (tPr X.K F is es)
  | is, .nil, [], _ => PAimp pa_nil fun σ H Q ⟨H0, Av0, cs, Av, ρ, ρ1, ρ', σ1, st, st', s, s1, he, q⟩ => by
    cases is with
    | nil =>
      simp only [evPar] at he
      cases he
      exact q [] H Av rfl Stp.refl s1
    | cons p r => obtain ⟨i, b⟩ := p; cases b <;> simp [evPar] at he
  | is, .nil, _ :: _, h => ff h
  | is, .cons true _ _, [], h => ff h
  | is, .cons true _ _, _ :: _, h => ff h
  | is, .cons false _ _, [], h => ff h
  | is, .cons false ce r, e :: l, h => by
    simp only [chkAs, Bool.and_eq_true] at h
    cases is with
    | nil =>
      refine PAimp (pa_cons ((sE G F k ce).s c.c h.1.2) (par_ok (is := []) c h.2) (star_plain h.1.1 _ _)) fun σ H Q ⟨H0, Av0, cs, Av, ρ, ρ1, ρ', σ1, st, st', s, s1, he, q⟩ => ?_
      simp [evPar] at he
    | cons p is =>
      obtain ⟨i, b⟩ := p
      refine PAimp (pa_cons ((sE G F k ce).s c.c h.1.2) (par_ok (is := is) c h.2) (star_plain h.1.1 _ _)) fun σ H Q ⟨H0, Av0, cs, Av, ρ, ρ1, ρ', σ1, st, st', s, s1, he, q⟩ => ?_
      cases b with
      | false =>
        simp only [evPar] at he
        split at he
        · rename_i x st1 e1
          refine ⟨cs, Av, ρ, st, x, st1, s.ok, s.cl, s.en, e1, fun v H1 x1 c1 r1 => ?_⟩
          have sp := Stp.of_ext s.ok x1
          refine ⟨H0, Av0, cs, Av, ρ, _, ρ', _, st1, st', s.ext x1 c1, (s1.ext x1 c1).setV i (r1.1.rp s.ok.there), he, fun vs H' Av' hl sp' s' => ?_⟩
          exact q (v :: vs) H' Av' (by simp [hl]) (sp.trans sp') s'
        · cases he
      | true =>
        simp only [evPar] at he
        split at he
        · rename_i ds st1 e1
          refine ⟨cs, Av, ρ, st, .o ds, st1, s.ok, s.cl, s.en, e1, fun v H1 x1 c1 r1 => ?_⟩
          obtain ⟨a, ws, rfl, _⟩ := id r1.1
          obtain ⟨_, _, _, s2, sp, _⟩ := s.own0 x1 c1 r1
          obtain ⟨s3, _⟩ := s1.own x1 c1 r1 i
          refine ⟨H0, Av0, cs, _, ρ, _, ρ', _, st1, st', s2, s3, he, fun vs H' Av' hl sp' s' => ?_⟩
          exact q (.ref a :: vs) H' Av' (by simp [hl]) (sp.trans sp') s'
        · cases he
/-! names of which one is a cell: stored from the left -/
theorem fm_lt {α β : Type} {f : α → Option β} : ∀ {l : List α}, (∃ a ∈ l, f a = none) → (l.filterMap f).length < l.length
  | [], ⟨_, h, _⟩ => nomatch h
  | x :: r, ⟨a, h, e⟩ => by
    cases hx : f x with
    | none =>
      rw [List.filterMap_cons_none hx]
      exact Nat.lt_succ_of_le (List.length_filterMap_le ..)
    | some y =>
      rw [List.filterMap_cons_some hx, List.length_cons, List.length_cons]
      have : ∃ a ∈ r, f a = none := by
        rcases List.mem_cons.mp h with rfl | h
        · rw [hx] at e; cases e
        · exact ⟨a, h, e⟩
      exact Nat.succ_lt_succ (fm_lt this)
theorem swS_none {ts vs : List Expr} {kt k2 : Nat} {pt pt2 : Pos} {env : Env} (h : ∃ t ∈ ts, celled env.scope t = true) : swappedStores [.Tuple ts kt pt] (.Tuple vs k2 pt2) env = pure none := by
  have e : swappedStores [.Tuple ts kt pt] (.Tuple vs k2 pt2) env = (if (!(ts.length == 2 || ts.length == 3) || vs.length != ts.length || env.blockKind != .function) = true then pure none else if vs.any isStar = true then pure none else
    if ((ts.filterMap (nameAt env ((ts.head?.map (·.pos.line)).getD 0))).length != ts.length || (ts.filterMap (nameAt env ((ts.head?.map (·.pos.line)).getD 0))).eraseDups.length != (ts.filterMap (nameAt env ((ts.head?.map (·.pos.line)).getD 0))).length) = true then pure none else
    if vs.all (foldedForSure 8) = true then pure none else if vs.all (constantsAlone 8) = true then (do unsupported "assign.tuple-of-constant-expressions:order-of-the-stores"; pure (some (ts.filterMap (nameAt env ((ts.head?.map (·.pos.line)).getD 0))))) else pure (some (ts.filterMap (nameAt env ((ts.head?.map (·.pos.line)).getD 0))))) := by
    unfold swappedStores
    rfl
  rw [e]
  have hl := fm_lt (f := nameAt env ((ts.head?.map (·.pos.line)).getD 0)) (l := ts) (by
    obtain ⟨t, ht, hc⟩ := h
    refine ⟨t, ht, ?_⟩
    cases t
    case Name x p =>
      have hc : (!isLoc1 env.scope x) = true := hc
      have : (env.kindOf x == some .local) = false := by
        unfold isLoc1 at hc
        unfold Env.kindOf
        split at hc
        · cases hc
        · rename_i h1
          exact beq_eq_false_iff_ne.mpr fun z => h1 z
      show (if (env.kindOf x == some .local && p.line == _) = true then some x else none) = none
      rw [this]
      rfl
    all_goals rfl)
  split
  · rfl
  · split
    · rfl
    · rw [if_pos]
      simp only [Bool.or_eq_true, bne_iff_ne, ne_eq]
      exact .inl (Nat.ne_of_lt hl)
def tPn (is : List (Nat × Bool)) : TGs := fun vs σ H Q => vs.length = is.length ∧ Q (setAll σ is vs) H
theorem pn_ok (c : Cq G F k X) : ∀ {is : List (Nat × Bool)} {ts : List Expr}, chkPn G X.env.scope is ts = true → PGs X ts (tPn is) ∧ ts.length = is.length ∧ (assignEach ts X.env).length = ts.length ∧ (assignEach ts X.env).findIdx? (·.1) = none
  | [], [], _ => ⟨PGsimp pgs_nil fun vs σ H Q ⟨hl, q⟩ => by
      have e : vs = [] := List.eq_nil_of_length_eq_zero hl
      subst e
      exact ⟨rfl, q⟩, rfl, rfl, rfl⟩
  | [], _ :: _, h => ff h
  | (i, b) :: is, [], h => ff h
  | (i, b) :: is, t :: ts, h => by
    cases t
    case Name x p =>
      have h' : (nmIs G.N i x && (isLc X.env.scope x && chkPn G X.env.scope is ts)) = true := h
      simp only [Bool.and_eq_true] at h'
      obtain ⟨h1, h2, h3⟩ := h'
      have hl : Loc X.env.scope x := by
        unfold isLc at h2
        split at h2
        · rename_i e; exact .inl e
        · rename_i e; exact .inr e
        · cases h2
      obtain ⟨g1, g2, g3, g4⟩ := pn_ok c h3
      have ae := assignEach_cons (e := .Name x p) rfl ts X.env
      refine ⟨PGsimp (pgs_cons (pg_name (by rw [c.c.N]; exact c.c.nd) (by rw [c.c.N]; exact nmIs_of h1) hl (.inl (c.fn x))) g1 (by rw [ae]; rfl)) fun vs σ H Q ⟨hl, q⟩ => ?_, by simp [g2], by rw [ae]; simp [g3], by rw [ae]; simp [List.findIdx?_cons, g4]⟩
      match vs, hl with
      | v :: vs, hl => exact ⟨v, vs, rfl, by simpa using hl, q⟩
    all_goals exact ff h
theorem ss_parC {is : List (Nat × Bool)} {es : CEs} {st : Stmt} (c : Cq G F k X) (h : chkParC G X.env.scope is es st = true) : PS X st (tSt X.K F W (.par is es)) := by
  unfold chkParC at h
  split at h
  · rename_i ts kt pt vs k2 pt2 hg
    obtain ⟨es', kk, p1, p, e1, rfl⟩ := getAsgT_eq hg
    cases e1
    simp only [Bool.and_eq_true, decide_eq_true_eq] at h
    obtain ⟨h1, h2, h3, h4, h5⟩ := h
    obtain ⟨g1, g2, g3, g4⟩ := pn_ok c h1
    obtain ⟨t, ht, hc⟩ := List.any_eq_true.mp h5
    refine PSimp (ps_asg (pe_tupD (par_ok (is := is) (es := es) c h2)) (pg_tup c.c.calm g1 g3 g4) (sw_tp _ _) (swS_none ⟨t, ht, hc⟩) rfl) fun D σ H ⟨H0, Av0, cs, Av, ρ, st, fl, s, he, q⟩ => ?_
    simp only [evS] at he
    split at he
    · rename_i ρ' st' e1
      cases he
      refine ⟨H0, Av0, cs, Av, ρ, ρ, ρ', σ, st, st', s, s, e1, fun vs' H' Av' hl sp s' => ⟨by rw [hl, ← g2]; exact Nat.le_trans h3 (by rw [sizeLine_eq]; decide), fun p o ho hp => ?_⟩⟩
      have z : Ext [] H' (upd H' p (.frz o (.tup vs'))) := Ext.upd hp
      refine ⟨p, vs', rfl, (SqD.new ho).t, by rw [hl, ← g2], hl, ?_⟩
      have cl' := s'.cl.ext s'.ok z
      exact q cs Av' _ _ (sp.trans (Stp.of_ext s'.ok z.all)) (s'.ext z.all cl')
    · cases he
  · cases h
theorem ss_par {is : List (Nat × Bool)} {es : CEs} : SS G F k W (.par is es) := ⟨fun {X st} c h0 => by
  have h0 : (chkPar G X.env.scope is es st || chkParC G X.env.scope is es st) = true := by unfold chkS at h0; exact h0
  rw [Bool.or_eq_true] at h0
  rcases h0 with h | h
  case inr => exact ss_parC c h
  have ev : ∀ {ρ : Rho} {st : Sto} {fl : Fl}, evS F W (.par is es) ρ st = some fl → ∃ ρ' st', evPar F is es ρ ρ st = some (ρ', st') ∧ fl = .nx ρ' st' := fun {ρ st fl} he => by
    simp only [evS] at he
    split at he
    · rename_i ρ' st' e1
      cases he
      exact ⟨ρ', st', e1, rfl⟩
    · cases he
  have hN : X.N.Nodup := by rw [c.c.N]; exact c.c.nd
  unfold chkPar at h
  split at h
  · rename_i i b1 j b2 ca cb
    split at h
    · rename_i x px y py a b hg
      obtain ⟨kt, pt, k2, pt2, p, rfl⟩ := getPar2_eq hg
      simp only [Bool.and_eq_true, decide_eq_true_eq, bne_iff_ne] at h
      obtain ⟨h1, h2, h3, h4, h5, h6, h7, h8, h9, h10, h11, h12⟩ := h
      have hi : X.N[i]? = some x := by rw [c.c.N]; exact nmIs_of h3
      have hj : X.N[j]? = some y := by rw [c.c.N]; exact nmIs_of h4
      have pa := par_ok (is := [(i, b1), (j, b2)]) (es := .cons false ca (.cons false cb .nil)) (l := [a, b]) c (by simp [chkAs, h8, h9, h10, h11])
      refine PSimp (ps_par c.c.calm hN hi hj h1 (isLoc1_of h5) (isLoc1_of h6) pa (swS_2 c h2 (isLoc1_of h5) (isLoc1_of h6) h7 h8 h9 h12) rfl) fun D σ H ⟨H0, Av0, cs, Av, ρ, st, fl, s, he, q⟩ => ?_
      obtain ⟨ρ', st', e1, rfl⟩ := ev he
      refine ⟨H0, Av0, cs, Av, ρ, ρ, ρ', σ, st, st', s, s, e1, fun vs H' Av' hl sp s' => ?_⟩
      match vs, hl with
      | [v, w], _ => exact ⟨v, w, rfl, q cs Av' H' _ sp s'⟩
    · cases h
  · rename_i i b1 j b2 l b3 ca cb cc
    split at h
    · rename_i x px y py z pz a b d hg
      obtain ⟨kt, pt, k2, pt2, p, rfl⟩ := getPar3_eq hg
      simp only [Bool.and_eq_true, decide_eq_true_eq, bne_iff_ne] at h
      obtain ⟨h1, h2, h3, h4, h5, h6, h7, h8, h9, h10, h11, h12, h13, h14, h15, h16, h17, h18, h19, h20, h21⟩ := h
      have hi : X.N[i]? = some x := by rw [c.c.N]; exact nmIs_of h7
      have hj : X.N[j]? = some y := by rw [c.c.N]; exact nmIs_of h8
      have hk : X.N[l]? = some z := by rw [c.c.N]; exact nmIs_of h9
      have pa := par_ok (is := [(i, b1), (j, b2), (l, b3)]) (es := .cons false ca (.cons false cb (.cons false cc .nil))) (l := [a, b, d]) c (by simp [chkAs, h15, h16, h17, h18, h19, h20])
      refine PSimp (L2.ps_par3 c.c.calm hN hi hj hk h1 h2 h3 (isLoc1_of h10) (isLoc1_of h11) (isLoc1_of h12) pa (swS_3 c h4 h5 h6 (isLoc1_of h10) (isLoc1_of h11) (isLoc1_of h12) h13 h14 h15 h16 h17 h21) rfl) fun D σ H ⟨H0, Av0, cs, Av, ρ, st, fl, s, he, q⟩ => ?_
      obtain ⟨ρ', st', e1, rfl⟩ := ev he
      refine ⟨H0, Av0, cs, Av, ρ, ρ, ρ', σ, st, st', s, s, e1, fun vs H' Av' hl sp s' => ?_⟩
      match vs, hl with
      | [v, w, u], _ => exact ⟨v, w, u, rfl, q cs Av' H' _ sp s'⟩
    · cases h
  · cases h⟩
end
end Ev

set_option Elab.async false
set_option linter.all false
set_option maxRecDepth 100000
set_option maxHeartbeats 4000000
/-! Statements: writes, methods, returns, branches, loops. -/
namespace Ev
variable [Zc]
open PySem PySem.Spec PyProof.Rows L2
section
variable {G : Ga} {F : FT} {k W : Nat} {X : Cx}
/-! ### x[i] = e -/
theorem asg_sub {o i : Expr} {pos : Pos} {env : Env} (h : plainSub i = true) (v : Value) : assign (.Subscript o i pos) env v = (do
      let ov ← holding [v] (eval o env)
      let iv ← holding [v, ov] (eval i env)
      standAt pos
      holding [v, ov, iv] (setItem ov iv v)
      release [v, ov, iv] []) := by
  cases i <;> first | rfl | exact ff h
theorem sw_sub {e o i : Expr} {p : Pos} (l : Nat) (env : Env) : swapsWithSole [.Subscript o i p] e l env = pure false := by
  cases e <;> rfl
theorem swS_sub {e o i : Expr} {p : Pos} (env : Env) : swappedStores [.Subscript o i p] e env = pure none := by
  cases e <;> rfl
theorem setAt_rel {K : PySem.W.Frag} {cs : List Addr} {Av : Addr → Prop} {H : Hp} {vs : List V} {ds es : List D} {kd xd : D} {kv xv : V} (rs : Rps K cs Av H vs ds) (h : setAt ds kd xd = some es) (rk : Rp K cs Av H kv kd) (rx : Rp K cs Av H xv xd) :
    ∃ n j, kv = .int n ∧ ixN vs.length n = some j ∧ Rps K cs Av H (vs.set j xv) es := by
  unfold setAt at h
  split at h
  · rename_i n
    cases rk
    obtain ⟨j, hj, rfl⟩ := Option.map_eq_some_iff.mp h
    exact ⟨n, j, rfl, by rw [rs.length]; exact hj, rs.set j rx⟩
  · cases h
theorem ss_setS {i : Nat} {cx ce : CE} : SS G F k W (.setS i cx ce) := ⟨fun {X st} c h => by
  unfold chkS at h
  split at h
  · rename_i x ix e hg
    obtain ⟨px, sp, p, rfl⟩ := getSet_eq hg
    simp only [Bool.and_eq_true] at h
    obtain ⟨h1, h2, h3, h4⟩ := h
    refine PSimp (ps_asg ((sE G F k ce).s c.c h3) (pg_sub (chkRd_ok c h1) ((sE G F k cx).s c.c h2) set_list (asg_sub h4)) (sw_sub _ _) (swS_sub _) rfl) fun D σ H ⟨H0, Av0, cs, Av, ρ, st, fl, s, he, q⟩ => ?_
    simp only [evS] at he
    split at he
    · rename_i r st1 e1
      split at he
      · rename_i kx st2 e2
        split at he
        · rename_i ds hds
          split at he
          · rename_i ds1 hd1
            cases he
            refine ⟨cs, Av, ρ, st, r, st1, s.ok, s.cl, s.en, e1, fun v H1 x1 c1 r1 => ?_⟩
            have s1 := s.ext x1 c1
            obtain ⟨a, vs, ha, _⟩ := slot_o s1.en hds
            refine ⟨.ref a, ha, cs, Av, ρ, st1, kx, st2, s1.ok, s1.cl, s1.en, e2, fun u H2 x2 c2 r2 => ?_⟩
            have s2 := s1.ext x2 c2
            obtain ⟨a', vs', ha', hA, na, hH, rs⟩ := slot_o s2.en hds
            rw [ha] at ha'
            cases ha'
            obtain ⟨n, j, rfl, hj, rs'⟩ := setAt_rel rs hd1 (r2.1.rp s1.ok.there) ((r1.1.rp s.ok.there).ext s1.ok x2)
            obtain ⟨s3, sp3⟩ := s2.mut hds ha rs'
            exact ⟨a, vs', n, j, rfl, rfl, hH, hj, q cs Av _ σ ((Stp.of_ext s.ok (x1.trans x2)).trans sp3) s3⟩
          · cases he
        · cases he
      · cases he
    · cases he
  · cases h⟩
theorem ss_setC {i : Nat} {cx ce : CE} : SS G F k W (.setC i cx ce) := ⟨fun {X st} c h => by
  unfold chkS at h
  split at h
  · rename_i x ix e hg
    obtain ⟨px, sp, p, rfl⟩ := getSet_eq hg
    simp only [Bool.and_eq_true] at h
    obtain ⟨h1, h2, h3, h4⟩ := h
    refine PSimp (ps_asg ((sE G F k ce).s c.c h3) (pg_sub (chkRd_ok c h1) ((sE G F k cx).s c.c h2) set_list (asg_sub h4)) (sw_sub _ _) (swS_sub _) rfl) fun D σ H ⟨H0, Av0, cs, Av, ρ, st, fl, s, he, q⟩ => ?_
    simp only [evS] at he
    split at he
    · rename_i r st1 e1
      split at he
      · rename_i kx st2 e2
        split at he
        · rename_i cd hcd
          split at he
          · rename_i n hn
            split at he
            · rename_i ds hds
              split at he
              · rename_i ds1 hd1
                cases he
                obtain ⟨m, rfl, rfl⟩ := cellOf_eq hn
                refine ⟨cs, Av, ρ, st, r, st1, s.ok, s.cl, s.en, e1, fun v H1 x1 c1 r1 => ?_⟩
                have s1 := s.ext x1 c1
                obtain ⟨u0, hu0, ru0⟩ := slot_v s1.en hcd
                cases ru0 with
                | dct _ _ _ _ hk => exact dct_ne hk
                | @cell a m' hm' =>
                refine ⟨.ref a, hu0, cs, Av, ρ, st1, kx, st2, s1.ok, s1.cl, s1.en, e2, fun u H2 x2 c2 r2 => ?_⟩
                have s2 := s1.ext x2 c2
                have hcs : cs[(m' : Int).toNat]? = some a := by simpa using hm'
                obtain ⟨vs', hH, rs⟩ := s2.cl.at_ _ a ds hcs hds
                obtain ⟨n, j, rfl, hj, rs'⟩ := setAt_rel rs hd1 (r2.1.rp s1.ok.there) ((r1.1.rp s.ok.there).ext s1.ok x2)
                have hlt : (m' : Int).toNat < st2.length := by
                  rcases Nat.lt_or_ge (m' : Int).toNat st2.length with h | h
                  · exact h
                  · rw [List.getElem?_eq_none h] at hds; cases hds
                obtain ⟨s3, sp3⟩ := s2.cell hcs hlt rs'
                exact ⟨a, vs', n, j, rfl, rfl, hH, hj, q cs Av _ σ ((Stp.of_ext s.ok (x1.trans x2)).trans sp3) s3⟩
              · cases he
            · cases he
          · cases he
        · cases he
      · cases he
    · cases he
  · cases h⟩
theorem tup2_none {o1 i1 o2 i2 : Expr} {a b : Expr} {p1 p2 pt pt2 : Pos} {kt k2 : Nat} (env : Env) (hk : (env.blockKind != .function) = false) (pa : plainE a = true) (pb : plainE b = true) : swappedStores [.Tuple [.Subscript o1 i1 p1, .Subscript o2 i2 p2] kt pt] (.Tuple [a, b] k2 pt2) env = pure none := by
  have hs : [a, b].any isStar = false := by simp [notStar pa, notStar pb]
  have e : swappedStores [.Tuple [.Subscript o1 i1 p1, .Subscript o2 i2 p2] kt pt] (.Tuple [a, b] k2 pt2) env = (if (!(2 == 2 || 2 == 3) || 2 != 2 || env.blockKind != .function) = true then pure none else if [a, b].any isStar = true then pure none else pure none) := by
    unfold swappedStores
    rfl
  rw [e, hs]
  split <;> rfl
theorem ss_setS2 {i : Nat} {cx1 cx2 ce1 ce2 : CE} : SS G F k W (.setS2 i cx1 cx2 ce1 ce2) := ⟨fun {X st} c h => by
  unfold chkS at h
  split at h
  · rename_i x i1 y i2 e1 e2 hg
    obtain ⟨px, sp, py, sq, kt, pt, k2, pt2, p, rfl⟩ := getSet2_eq hg
    simp only [Bool.and_eq_true] at h
    obtain ⟨h1, h2, h3, h4, h5, h6, h7, h8, h9, h10⟩ := h
    have pgs := pgs_cons (pg_sub (pos := sp) (chkRd_ok (p := px) c h1) ((sE G F k cx1).s c.c h3) set_list (asg_sub h7)) (pgs_cons (pg_sub (pos := sq) (chkRd_ok (p := py) c h2) ((sE G F k cx2).s c.c h4) set_list (asg_sub h8)) pgs_nil rfl) rfl
    have pet := pe_tup (x1 := k2) (pos := pt2) (pa_cons ((sE G F k ce1).s c.c h5) (pa_cons ((sE G F k ce2).s c.c h6) pa_nil (star_plain h10 _ _)) (star_plain h9 _ _))
    refine PSimp (ps_asg pet (pg_tup c.c.calm pgs rfl rfl) (sw_tp _ _) (tup2_none _ (blk_fn c) h9 h10) rfl) fun D σ H ⟨H0, Av0, cs, Av, ρ, st, fl, s, he, q⟩ => ?_
    simp only [evS] at he
    split at he
    · rename_i r1 st1 e1
      split at he
      · rename_i r2 st2 e2
        split at he
        · rename_i k1 st3 e3
          split at he
          · rename_i ds hds
            split at he
            · rename_i ds1 hd1
              split at he
              · rename_i k2' st4 e4
                split at he
                · rename_i ds2 hd2
                  cases he
                  refine ⟨cs, Av, ρ, st, r1, st1, s.ok, s.cl, s.en, e1, fun v1 H1 x1 c1 q1 => ?_⟩
                  have s1 := s.ext x1 c1
                  refine ⟨cs, Av, ρ, st1, r2, st2, s1.ok, s1.cl, s1.en, e2, fun v2 H2 x2 c2 q2 => ?_⟩
                  have s2 := s1.ext x2 c2
                  refine ⟨by show 2 ≤ sizeLine; decide, fun T hT => ?_⟩
                  have zT : Ext [] H2 (upd H2 T (.tup [v1, v2])) := Ext.upd hT
                  have s3 := s2.ext zT.all (s2.cl.ext s2.ok zT)
                  refine ⟨T, [v1, v2], rfl, SqT.of (upd_same ..), rfl, v1, [v2], rfl, ?_⟩
                  obtain ⟨a, vs, ha, _⟩ := slot_o s3.en hds
                  refine ⟨.ref a, ha, cs, Av, ρ, st2, k1, st3, s3.ok, s3.cl, s3.en, e3, fun u1 H4 x4 c4 q4 => ?_⟩
                  have s4 := s3.ext x4 c4
                  obtain ⟨a', vs', ha', hA, na, hH, rs⟩ := slot_o s4.en hds
                  rw [ha] at ha'
                  cases ha'
                  have R1 : Rp X.K cs Av H4 v1 r1.d := (((q1.1.rp s.ok.there).ext s1.ok x2).ext s2.ok zT.all).ext s3.ok x4
                  have R2 : Rp X.K cs Av H4 v2 r2.d := ((q2.1.rp s1.ok.there).ext s2.ok zT.all).ext s3.ok x4
                  obtain ⟨n, j, rfl, hj, rs'⟩ := setAt_rel rs hd1 (q4.1.rp s3.ok.there) R1
                  obtain ⟨s5, sp5⟩ := s4.mut hds ha rs'
                  refine ⟨a, vs', n, j, rfl, rfl, hH, hj, v2, [], rfl, ?_⟩
                  have hi : (ρ.set i (some (RV.o ds1)))[i]? = some (some (RV.o ds1)) := by
                    have hl : i < ρ.length := by
                      rcases Nat.lt_or_ge i ρ.length with h | h
                      · exact h
                      · rw [List.getElem?_eq_none h] at hds; cases hds
                    rw [List.getElem?_set_self hl]
                  refine ⟨.ref a, ha, cs, Av, _, st3, k2', st4, s5.ok, s5.cl, s5.en, e4, fun u2 H6 x6 c6 q6 => ?_⟩
                  have s6 := s5.ext x6 c6
                  obtain ⟨a'', vs'', ha'', hA', na', hH', rs2⟩ := slot_o s6.en hi
                  rw [ha] at ha''
                  cases ha''
                  have ap : Avd Av Av H4 := ⟨fun _ h => h, s4.ok.lst⟩
                  have R2' : Rp X.K cs Av H6 v2 r2.d := (R2.p ap sp5.ext).ext s5.ok x6
                  obtain ⟨n', j', rfl, hj', rs2'⟩ := setAt_rel rs2 hd2 (q6.1.rp s5.ok.there) R2'
                  obtain ⟨s7, sp7⟩ := s6.mut hi ha rs2'
                  have hset : (ρ.set i (some (RV.o ds1))).set i (some (RV.o ds2)) = ρ.set i (some (RV.o ds2)) := by simp
                  rw [hset] at s7
                  refine ⟨a, vs'', n', j', rfl, rfl, hH', hj', rfl, q cs Av _ σ ?_ s7⟩
                  exact ((Stp.of_ext s.ok (((x1.trans x2).trans zT.all).trans x4)).trans sp5).trans ((Stp.of_ext s5.ok x6).trans sp7)
                · cases he
              · cases he
            · cases he
          · cases he
        · cases he
      · cases he
    · cases he
  · cases h⟩

/-! ### x.append(e), x.extend(e), x.pop(i) -/
theorem meth_of {i : Nat} {ce : CE} {nm : Str} {st : Stmt} (h : chkMeth G X.env.scope i ce nm st = true) : ∃ x px ap e cp p, st = .Expr (.Call (.Attribute (.Name x px) nm ap) [e] [] cp) p ∧ chkRd G X.env.scope i x = true ∧ plainE e = true ∧ chkE G X.env.scope false ce e = true ∧ (ap.endLine == cp.line) = true := by
  unfold chkMeth at h
  split at h
  · rename_i x m ap e cp hg
    obtain ⟨px, p, rfl⟩ := getMeth_eq hg
    simp only [Bool.and_eq_true] at h
    obtain ⟨h0, h1, h2, h3, h4⟩ := h
    obtain rfl := eq_of_beq h0
    exact ⟨x, px, ap, e, cp, p, rfl, h1, h2, h3, h4⟩
  · cases h
theorem few1 {e : Expr} {cp : Pos} (h : plainE e = true) : ((backTo cp (starEach [e] X.env)).all (fun x => !x.1) && (backToKw cp (keywordEach [] X.env)).all (fun x => x.1.isSome)
      && decide ([e].length + ([] : List Keyword).length + (if ([] : List Keyword).isEmpty then 0 else 1) < 30)) = true := by
  rw [star_plain h]; rfl
theorem ss_app {i : Nat} {ce : CE} : SS G F k W (.app i ce) := ⟨fun {X st} c h => by
  have h : chkMeth G X.env.scope i ce "append" st = true := by unfold chkS at h; exact h
  obtain ⟨x, px, ap, e, cp, p, rfl, h1, h2, h3, h4⟩ := meth_of h
  refine PSimp (ps_expr (pe_bm PySem.F.plainAttrs_list PySem.F.slot_list_append PySem.F.type_list_append mt_append (chkRd_ok c h1) (pa_cons ((sE G F k ce).s c.c h3) pa_nil (star_plain h2 _ _)) rfl (few1 h2) h4 (star_plain h2 _ _) rfl) rfl) fun D σ H ⟨H0, Av0, cs, Av, ρ, st, fl, s, he, q⟩ => ?_
  simp only [evS] at he
  split at he
  · rename_i r st1 e1
    split at he
    · rename_i ds hds
      split at he
      · rename_i hlen
        cases he
        obtain ⟨a, vs, ha, hA0, na0, hH0, _⟩ := slot_o s.en hds
        refine ⟨.ref a, ha, .inl ⟨rfl, vs, SqL.of hH0⟩, cs, Av, ρ, st, r, st1, s.ok, s.cl, s.en, e1, fun v H1 x1 c1 r1 => ?_⟩
        have s1 := s.ext x1 c1
        obtain ⟨a', vs', ha', hA, na, hH, rs⟩ := slot_o s1.en hds
        rw [ha] at ha'
        cases ha'
        obtain ⟨s2, sp2⟩ := s1.mut hds ha (rs.append (.cons (r1.1.rp s.ok.there) .nil))
        refine ⟨a, vs', v, rfl, rfl, hH, ?_, q cs Av _ σ ((Stp.of_ext s.ok x1).trans sp2) s2⟩
        rw [rs.length]
        exact Nat.lt_of_lt_of_le hlen maxLen_le
      · cases he
    · cases he
  · cases he⟩
theorem ss_ext {i : Nat} {ce : CE} : SS G F k W (.ext i ce) := ⟨fun {X st} c h => by
  have h : chkMeth G X.env.scope i ce "extend" st = true := by unfold chkS at h; exact h
  obtain ⟨x, px, ap, e, cp, p, rfl, h1, h2, h3, h4⟩ := meth_of h
  refine PSimp (ps_expr (pe_bm PySem.F.plainAttrs_list PySem.F.slot_list_extend PySem.F.type_list_extend mt_extend (chkRd_ok c h1) (pa_cons ((sE G F k ce).s c.c h3) pa_nil (star_plain h2 _ _)) rfl (few1 h2) h4 (star_plain h2 _ _) rfl) rfl) fun D σ H ⟨H0, Av0, cs, Av, ρ, st, fl, s, he, q⟩ => ?_
  simp only [evS] at he
  split at he
  · rename_i xs st1 e1
    split at he
    · rename_i ds hds
      split at he
      · rename_i hlen
        cases he
        obtain ⟨a, vs, ha, hA0, na0, hH0, _⟩ := slot_o s.en hds
        refine ⟨.ref a, ha, .inl ⟨rfl, vs, SqL.of hH0⟩, cs, Av, ρ, st, .o xs, st1, s.ok, s.cl, s.en, e1, fun v H1 x1 c1 r1 => ?_⟩
        have s1 := s.ext x1 c1
        obtain ⟨a', vs', ha', hA, na, hH, rs⟩ := slot_o s1.en hds
        rw [ha] at ha'
        cases ha'
        obtain ⟨b, zs, rfl, hb0, hb1, rz⟩ := r1.1
        obtain ⟨s2, sp2⟩ := s1.mut hds ha (rs.append (rz.av fun x hx => .inl (.inl hx)))
        refine ⟨a, b, vs', zs, rfl, rfl, hH, hb1, ?_, q cs Av _ σ ((Stp.of_ext s.ok x1).trans sp2) s2⟩
        rw [rs.length, rz.length]
        exact Nat.le_trans hlen maxLen_le
      · cases he
    · cases he
  · cases he⟩
theorem ss_popAt {i : Nat} {ce : CE} : SS G F k W (.popAt i ce) := ⟨fun {X st} c h => by
  have h : chkMeth G X.env.scope i ce "pop" st = true := by unfold chkS at h; exact h
  obtain ⟨x, px, ap, e, cp, p, rfl, h1, h2, h3, h4⟩ := meth_of h
  refine PSimp (ps_expr (pe_bm PySem.F.plainAttrs_list PySem.F.slot_list_pop PySem.F.type_list_pop mt_popAt (chkRd_ok c h1) (pa_cons ((sE G F k ce).s c.c h3) pa_nil (star_plain h2 _ _)) rfl (few1 h2) h4 (star_plain h2 _ _) rfl) rfl) fun D σ H ⟨H0, Av0, cs, Av, ρ, st, fl, s, he, q⟩ => ?_
  simp only [evS] at he
  split at he
  · rename_i n st1 e1
    split at he
    · rename_i ds hds
      split at he
      · rename_i j hj
        split at he
        · rename_i hlen
          cases he
          obtain ⟨a, vs, ha, hA0, na0, hH0, _⟩ := slot_o s.en hds
          refine ⟨.ref a, ha, .inl ⟨rfl, vs, SqL.of hH0⟩, cs, Av, ρ, st, _, st1, s.ok, s.cl, s.en, e1, fun v H1 x1 c1 r1 => ?_⟩
          have s1 := s.ext x1 c1
          obtain ⟨a', vs', ha', hA, na, hH, rs⟩ := slot_o s1.en hds
          rw [ha] at ha'
          cases ha'
          cases r1.1
          obtain ⟨s2, sp2⟩ := s1.mut hds ha (rs.eraseIdx j)
          obtain ⟨q1, q2, q3, q4⟩ := ixN_seq hj
          have hl : ds.length ≤ 100000 := hlen
          obtain ⟨y, hy⟩ : ∃ y, vs'[j]? = some y := ⟨_, List.getElem?_eq_getElem (by rw [rs.length]; exact q2)⟩
          refine ⟨a, vs', n, j, y, rfl, rfl, hH, by omega, by omega, by rw [rs.length]; exact q1, hy, q cs Av _ σ ((Stp.of_ext s.ok x1).trans sp2) s2⟩
        · cases he
      · cases he
    · cases he
  · cases he⟩
theorem getPop_eq {z : Expr} {y : Str} {bp : Pos} {e : Expr} {cp : Pos} (h : getPop z = some (y, bp, e, cp)) : ∃ py, z = .Call (.Attribute (.Name y py) "pop" bp) [e] [] cp := by
  unfold getPop at h
  split at h
  · split at h
    · rename_i hm
      cases h
      subst hm
      exact ⟨_, rfl⟩
    · cases h
  · cases h
theorem ss_appPop {t i : Nat} {ce : CE} : SS G F k W (.appPop t i ce) := ⟨fun {X st} c h => by
  have hh : chkAP G X.env.scope t i ce st = true := by unfold chkS at h; exact h
  clear h
  unfold chkAP at hh
  cases hg : getMeth st with
  | none => rw [hg] at hh; cases hh
  | some q5 =>
  obtain ⟨x, m, ap, z, cp⟩ := q5
  rw [hg] at hh
  obtain ⟨px, p, rfl⟩ := getMeth_eq hg
  cases hg2 : getPop z with
  | none => simp only [hg2] at hh; cases hh
  | some qq =>
  obtain ⟨y, bp, e, cp'⟩ := qq
  simp only [hg2] at hh
  obtain ⟨py, rfl⟩ := getPop_eq hg2
  simp only [Bool.and_eq_true] at hh
  obtain ⟨h0, h1, h2, h3, h4, h5, h6⟩ := hh
  obtain rfl := eq_of_beq h0
  have inner := pe_bm (o := .Name y py) PySem.F.plainAttrs_list PySem.F.slot_list_pop PySem.F.type_list_pop mt_popAt (chkRd_ok c h2) (pa_cons ((sE G F k ce).s c.c h4) pa_nil (star_plain h3 _ _)) rfl (few1 h3) h6 (star_plain h3 _ _) rfl
  refine PSimp (ps_expr (pe_bm PySem.F.plainAttrs_list PySem.F.slot_list_append PySem.F.type_list_append mt_append (chkRd_ok c h1) (pa_cons inner pa_nil (star_plain rfl _ _)) rfl (few1 rfl) h5 (star_plain rfl _ _) rfl) rfl) fun D σ H ⟨H0, Av0, cs, Av, ρ, st, fl, s, he, q⟩ => ?_
  simp only [evS] at he
  split at he
  case h_2 => cases he
  rename_i n st1 e1
  split at he
  case h_2 => cases he
  rename_i ds us hds hus
  split at he
  case h_2 => cases he
  rename_i j hj
  split at he
  case isFalse => cases he
  rename_i hc
  obtain ⟨hlen, hul, hne⟩ := hc
  split at he
  case h_2 => cases he
  rename_i d hd
  cases he
  obtain ⟨at_, vt, hat, _, _, hHt, _⟩ := slot_o s.en hus
  obtain ⟨ai, vi, hai, _, _, hHi, _⟩ := slot_o s.en hds
  refine ⟨.ref at_, hat, .inl ⟨rfl, vt, SqL.of hHt⟩, .ref ai, hai, .inl ⟨rfl, vi, SqL.of hHi⟩, cs, Av, ρ, st, _, st1, s.ok, s.cl, s.en, e1, fun v H1 x1 c1 r1 => ?_⟩
  have s1 := s.ext x1 c1
  obtain ⟨ai', vi', hai', hA, hn, hH1, rs⟩ := slot_o s1.en hds
  rw [hai] at hai'
  cases hai'
  cases r1.1
  obtain ⟨s2, sp2⟩ := s1.mut hds hai (rs.eraseIdx j)
  obtain ⟨q1, q2, q3, q4⟩ := ixN_seq hj
  have hl : ds.length ≤ 100000 := hlen
  obtain ⟨y', hy, ry⟩ := rs.get hd
  have ap : Avd Av (· = ai) H1 := ⟨fun b h => by rw [h]; exact hA, fun b h => by rw [h]; exact ⟨_, hH1⟩⟩
  have ex : ExtP (· = ai) H1 (upd H1 ai (.lst (vi'.eraseIdx j))) := fun b o e ne _ => by rw [upd_ne ne]; exact e
  have ry2 := ry.p ap ex
  have hus2 : (ρ.set i (some (.o (ds.eraseIdx j))))[t]? = some (some (.o us)) := by rw [List.getElem?_set_ne (fun z => hne z.symm)]; exact hus
  obtain ⟨at2, vt2, hat2, _, _, hHt2, rt2⟩ := slot_o s2.en hus2
  rw [hat] at hat2
  cases hat2
  obtain ⟨s3, sp3⟩ := s2.mut hus2 hat (rt2.append (.cons ry2 .nil))
  refine ⟨ai, vi', n, j, y', rfl, rfl, hH1, by omega, by omega, by rw [rs.length]; exact q1, hy, at_, vt2, y', rfl, rfl, hHt2, ?_, q cs Av _ σ (((Stp.of_ext s.ok x1).trans sp2).trans sp3) s3⟩
  rw [rt2.length]
  exact Nat.lt_of_lt_of_le hul maxLen_le⟩
/-! ### return -/
theorem ss_ret {ce : CE} : SS G F k W (.ret ce) := ⟨fun {X st} c h => by
  unfold chkS at h
  split at h
  · rename_i e hg
    obtain ⟨p, rfl⟩ := getRet_eq hg
    refine PSimp (ps_ret ((sE G F k ce).s c.c h)) fun D σ H ⟨H0, Av0, cs, Av, ρ, st, fl, s, he, q⟩ => ?_
    simp only [evS] at he
    split at he
    · rename_i r st1 e1
      cases he
      refine ⟨cs, Av, ρ, st, r, st1, s.ok, s.cl, s.en, e1, fun v H1 x1 c1 r1 => ?_⟩
      exact q cs Av H1 v (Stp.of_ext s.ok x1) c1 (s.ex.trans x1) s.sub (r1.old s.ex s.ok)
    · cases he
  · cases h⟩
theorem ss_retO {i : Nat} : SS G F k W (.retO i) := ⟨fun {X st} c h => by
  unfold chkS at h
  split at h
  · rename_i x px hg
    obtain ⟨p, rfl⟩ := getRet_eq hg
    refine PSimp (ps_ret (chkRd_ok c h)) fun D σ H ⟨H0, Av0, cs, Av, ρ, st, fl, s, he, q⟩ => ?_
    simp only [evS] at he
    split at he
    · rename_i ds hds
      cases he
      obtain ⟨a, vs, ha, hA, na, hH, rs⟩ := slot_o s.en hds
      have h0 := s.fr i a ⟨ds, hds, ha⟩
      have hav : ∀ b, add Av a b → Av b ∨ H b = none := fun b hb => .inl (hb.elim id fun z => by rw [z]; exact hA)
      exact ⟨.ref a, ha, q cs Av H _ Stp.refl s.cl s.ex s.sub ⟨⟨a, vs, rfl, h0, hH, rs.av hav⟩, fun b es e1 _ => by cases e1; exact s.cl.av hav⟩⟩
    · cases he
  · cases h⟩
theorem ss_brk : SS G F k W .brk := ⟨fun {X st} c h => by
  have h : isBrk st = true := by unfold chkS at h; exact h
  obtain ⟨p, rfl⟩ := isBrk_eq h
  refine PSimp ps_break fun D σ H ⟨H0, Av0, cs, Av, ρ, st, fl, s, he, q⟩ => ?_
  simp only [evS] at he
  cases he
  exact q cs Av H σ Stp.refl s⟩
theorem ss_cont : SS G F k W .cont := ⟨fun {X st} c h => by
  have h : isCont st = true := by unfold chkS at h; exact h
  obtain ⟨p, rfl⟩ := isCont_eq h
  refine PSimp ps_continue fun D σ H ⟨H0, Av0, cs, Av, ρ, st, fl, s, he, q⟩ => ?_
  simp only [evS] at he
  cases he
  exact q cs Av H σ Stp.refl s⟩
theorem ss_bad : SS G F k W .bad := ⟨fun {X st} c h => PSimp ps_never fun D σ H ⟨H0, Av0, cs, Av, ρ, st, fl, s, he, q⟩ => by
  simp only [evS] at he
  cases he⟩
theorem ss_raise0 {x : Str} {ce : CE} : SS G F k W (.raise x ce) := ⟨fun {X st} c h => PSimp ps_never fun D σ H ⟨H0, Av0, cs, Av, ρ, st, fl, s, he, q⟩ => by
  simp only [evS] at he
  cases he⟩

/-! ### branches, blocks -/
theorem ss_ite {ce : CE} {a b : CSs} (ha : SSs G F k W a) (hb : SSs G F k W b) : SS G F k W (.ite ce a b) := ⟨fun {X st} c h => by
  unfold chkS at h
  split at h
  · rename_i e sa sb hg
    obtain ⟨p, rfl⟩ := getIf_eq hg
    simp only [Bool.and_eq_true] at h
    obtain ⟨h1, h2, h3⟩ := h
    refine PSimp (ps_if ((sE G F k ce).t c.c h1) (ha.s c h2) (hb.s c h3)) fun D σ H ⟨H0, Av0, cs, Av, ρ, st, fl, s, he, q⟩ => ?_
    simp only [evS] at he
    split at he
    · rename_i r st1 e1
      split at he
      · rename_i e2
        refine ⟨cs, Av, ρ, st, r, st1, true, s.ok, s.cl, s.en, e1, e2, fun H1 x1 c1 => ?_⟩
        dsimp only
        rw [if_pos rfl]
        exact ⟨H0, Av0, cs, Av, ρ, st1, fl, s.ext x1 c1, he, q.step (Stp.of_ext s.ok x1)⟩
      · rename_i e2
        refine ⟨cs, Av, ρ, st, r, st1, false, s.ok, s.cl, s.en, e1, e2, fun H1 x1 c1 => ?_⟩
        dsimp only
        rw [if_neg (by decide)]
        exact ⟨H0, Av0, cs, Av, ρ, st1, fl, s.ext x1 c1, he, q.step (Stp.of_ext s.ok x1)⟩
      · cases he
    · cases he
  · cases h⟩
theorem sss_nil : SSs G F k W .nil := ⟨fun {X l} c h => by
  cases l with
  | cons => exact ff h
  | nil =>
    refine PSsimp pss_nil fun D σ H ⟨H0, Av0, cs, Av, ρ, st, fl, s, he, q⟩ => ?_
    simp only [evSs] at he
    cases he
    exact q cs Av H σ Stp.refl s⟩
/-- a statement that has a text -/
def isTx : CS → Bool
  | .freeze _ => false
  | .mkcell _ => false
  | _ => true
theorem chkSs_cons {sc : Scope} {s : CS} {r : CSs} {l : List Stmt} (ht : isTx s = true) (h : chkSs G sc (.cons s r) l = true) : ∃ st l', l = st :: l' ∧ chkS G sc s st = true ∧ chkSs G sc r l' = true := by
  cases l with
  | nil => cases s <;> first | exact ff h | exact ff ht
  | cons st l' =>
    refine ⟨st, l', rfl, ?_⟩
    cases s <;> first
      | exact ff ht
      | (simp only [chkSs, Bool.and_eq_true] at h; exact h)
theorem sss_cons {s : CS} {r : CSs} (ht : isTx s = true) (hs : SS G F k W s) (hr : SSs G F k W r) : SSs G F k W (.cons s r) := ⟨fun {X l} c h => by
  obtain ⟨st, l', rfl, h1, h2⟩ := chkSs_cons ht h
  refine PSsimp (pss_cons (hs.s c h1) (hr.s c h2)) fun D σ H ⟨H0, Av0, cs, Av, ρ, st, fl, s, he, q⟩ => ?_
  simp only [evSs] at he
  split at he
  · rename_i ρ1 st1 e1
    refine ⟨H0, Av0, cs, Av, ρ, st, _, s, e1, fun cs' Av' H' σ' sp s' => ?_⟩
    exact ⟨H0, Av0, cs', Av', ρ1, st1, fl, s', he, q.step sp⟩
  · rename_i hne
    refine ⟨H0, Av0, cs, Av, ρ, st, fl, s, he, ?_⟩
    cases fl with
    | nx ρ1 st1 => exact absurd he (hne ρ1 st1)
    | bk ρ1 st1 => exact q
    | ct ρ1 st1 => exact q
    | rt r st1 => exact q⟩
theorem sss_freeze {i : Nat} {r : CSs} (hr : SSs G F k W r) : SSs G F k W (.cons (.freeze i) r) := ⟨fun {X l} c h => by
  have h : chkSs G X.env.scope r l = true := by unfold chkSs at h; exact h
  refine PSsimp (hr.s c h) fun D σ H ⟨H0, Av0, cs, Av, ρ, st, fl, s, he, q⟩ => ?_
  simp only [evSs, evS] at he
  split at he
  · rename_i ρ1 st1 e1
    split at e1
    · rename_i ds hds
      cases e1
      obtain ⟨Av', s', sp⟩ := s.freeze hds
      exact ⟨H0, Av0, cs, Av', _, _, fl, s', he, q.step sp⟩
    · cases e1
  · rename_i hne
    split at he
    · rename_i ds hds
      cases he
      exact absurd (by rw [hds]) (hne _ _)
    · cases he⟩
theorem sss_mkcell {i : Nat} {r : CSs} (hr : SSs G F k W r) : SSs G F k W (.cons (.mkcell i) r) := ⟨fun {X l} c h => by
  have h : chkSs G X.env.scope r l = true := by unfold chkSs at h; exact h
  refine PSsimp (hr.s c h) fun D σ H ⟨H0, Av0, cs, Av, ρ, st, fl, s, he, q⟩ => ?_
  simp only [evSs, evS] at he
  split at he
  · rename_i ρ1 st1 e1
    split at e1
    · rename_i ds hds
      cases e1
      obtain ⟨a, s', sp⟩ := s.mkcell hds
      exact ⟨H0, Av0, cs ++ [a], Av, _, _, fl, s', he, q.step sp⟩
    · cases e1
  · rename_i hne
    split at he
    · rename_i ds hds
      cases he
      exact absurd (by rw [hds]) (hne _ _)
    · cases he⟩
end
end Ev

set_option Elab.async false
set_option linter.all false
set_option maxRecDepth 100000
set_option maxHeartbeats 4000000
/-! Loops, and all the statements by induction. -/
namespace Ev
variable [Zc]
open PySem PySem.Spec PyProof.Rows L2
section
variable {K : PySem.W.Frag} {cs cs' : List Addr} {Av Av' : Addr → Prop} {H H' : Hp} {ds : List D} {pr : Bool} {J : It}
theorem Wk.csx {P : Addr → Prop} {e : List Addr} (w : Wk K cs Av P H pr J ds) : Wk K (cs ++ e) Av P H pr J ds := by
  cases w with
  | lst n hs r => exact .lst n hs r.cs
  | tup hs r => exact .tup hs r.cs
  | rng lo n => exact .rng lo n
  | rngc lo c n => exact .rngc lo c n
  | enL n hs r => exact .enL n hs r.cs
  | enT hs r => exact .enT hs r.cs
  | zpL n n' hs hs' r r' => exact .zpL n n' hs hs' r.cs r'.cs
  | zpT hs hs' r r' => exact .zpT hs hs' r.cs r'.cs
/-- what a loop walks, later -/
theorem Wk.later (w : Wk K cs Av Av H pr J ds) (ok : AvOk cs Av H) (s : Stp cs Av H cs' Av' H') : Wk K cs' Av' Av H' pr J ds := by
  obtain ⟨e, rfl⟩ := s.pre
  let U : Addr → Prop := fun a => Av a ∨ Av' a
  have h1 : Wk K cs U Av H pr J ds := w.av fun a h => h.elim .inl (s.grow a)
  have h2 : Wk K cs U Av H' pr J ds := h1.p ⟨fun a h => .inl h, ok.lst⟩ s.ext
  exact (h2.av fun a h => .inl (.inr h)).csx
end
section
variable {G : Ga} {F : FT} {k W : Nat} {X : Cx}
theorem loop_cons {f : D → Rho → Sto → Option Fl} {x : D} {r : List D} {ρ : Rho} {st : Sto} {fl : Fl} (h : loop f (x :: r) ρ st = some fl) :
    ∃ f1, f x ρ st = some f1 ∧ match f1 with
      | .nx ρ1 st1 => loop f r ρ1 st1 = some fl
      | .ct ρ1 st1 => loop f r ρ1 st1 = some fl
      | .bk ρ1 st1 => fl = .nx ρ1 st1
      | .rt v st1 => fl = .rt v st1 := by
  simp only [loop] at h
  split at h
  · rename_i ρ1 st1 e; exact ⟨_, e, h⟩
  · rename_i ρ1 st1 e; exact ⟨_, e, h⟩
  · rename_i ρ1 st1 e; cases h; exact ⟨_, e, rfl⟩
  · rename_i v st1 e; cases h; exact ⟨_, e, rfl⟩
  · cases h
theorem avOf_f {cs : List Addr} {Av : Addr → Prop} : avOf false cs Av = Av := by unfold avOf; simp
theorem ss_for {t : Tg} {it : CI} {b : CSs} (hb : SSs G F k W b) : SS G F k W (.for_ t it b) := ⟨fun {X st} c h => by
  unfold chkS at h
  split at h
  · rename_i te ie sb hg
    obtain ⟨p, rfl⟩ := getFor_eq hg
    simp only [Bool.and_eq_true] at h
    obtain ⟨h1, h2, h3, h4⟩ := h
    refine PSimp (ps_for c.hp c.c.calm ((sI G F k it).i c.c h2) (tg_ok (fp := fun _ => true) c.c (fun x _ => c.fn x) h1) (hb.s c h4) (foldOk h3 _)) fun D σ H ⟨H0, Av0, cs, Av, ρ, st, fl, s, he, q⟩ => ?_
    simp only [evS] at he
    split at he
    · rename_i ds st1 e1
      refine ⟨cs, Av, ρ, st, ds, st1, s.ok, s.cl, s.en, e1, fun J H1 x1 c1 wk => ?_⟩
      rw [avOf_f] at wk
      have s1 := s.ext x1 c1
      have sp1 := Stp.of_ext s.ok x1
      generalize hf : (fun d ρ st => match bindTg t d ρ with
        | some ρ1 => evSs F W b ρ1 st
        | none => none : PyData → Rho → Sto → Option Fl) = f at he
      refine ⟨fun i m σi Hi => i ≤ ds.length ∧ m = ds.length - i ∧ ∃ cs' Av' ρi sti, SR X.K H0 Av0 cs' Av' Hi σi ρi sti ∧ Stp cs Av H1 cs' Av' Hi ∧ loop f (ds.drop i) ρi sti = some fl, ⟨ds.length, Nat.zero_le _, rfl, cs, Av, ρ, st1, s1, Stp.refl, he⟩, ?_⟩
      rintro i m σi Hi ⟨hi, rfl, cs', Av', ρi, sti, si, spi, hl⟩
      have w := wk.later s1.ok spi
      by_cases hlt : i < ds.length
      · have hd : ds[i]? = some ds[i] := List.getElem?_eq_getElem hlt
        rw [drop_at hd] at hl
        obtain ⟨f1, e2, e3⟩ := loop_cons hl
        refine .inr ⟨w.go hlt, fun σ' Hn => ∃ cs2 Av2 ρn stn, SR X.K H0 Av0 cs2 Av2 Hn σ' ρn stn ∧ Stp cs Av H1 cs2 Av2 Hn ∧ loop f (ds.drop (i + 1)) ρn stn = some fl, fun σ' Hn ⟨cs2, Av2, ρn, stn, a1, a2, a3⟩ => ⟨ds.length - (i + 1), by omega, by omega, rfl, cs2, Av2, ρn, stn, a1, a2, a3⟩, fun x Hy y => ?_⟩
        obtain ⟨d, hd', ex, rp⟩ := w.yld si.ok hlt y
        rw [hd] at hd'
        cases hd'
        have sy := si.ext ex.all (si.cl.ext si.ok ex)
        have spy := spi.trans (Stp.of_ext si.ok ex.all)
        rw [← hf] at e2
        simp only at e2
        split at e2
        · rename_i ρ1 hb1
          refine ⟨cs', Av', ρi, ds[i], ρ1, sy.en, rp.to (pr_tp h2 h1), hb1, fun σ2 ap en2 => ?_⟩
          have s2 := sy.bind hb1 ap en2
          refine ⟨H0, Av0, cs', Av', ρ1, sti, f1, s2, e2, ?_⟩
          cases f1 with
          | nx ρn stn => exact fun cs2 Av2 H2 σ3 sp3 s3 => ⟨cs2, Av2, ρn, stn, s3, spy.trans sp3, e3⟩
          | ct ρn stn => exact fun cs2 Av2 H2 σ3 sp3 s3 => ⟨cs2, Av2, ρn, stn, s3, spy.trans sp3, e3⟩
          | bk ρn stn =>
            have e3 : fl = .nx ρn stn := e3
            subst e3
            exact fun cs2 Av2 H2 σ3 sp3 s3 => q cs2 Av2 H2 σ3 (sp1.trans (spy.trans sp3)) s3
          | rt v stn =>
            have e3 : fl = .rt v stn := e3
            subst e3
            exact fun cs2 Av2 H2 v3 sp3 => q cs2 Av2 H2 v3 (sp1.trans (spy.trans sp3))
        · cases e2
      · have hi' : i = ds.length := by omega
        subst hi'
        rw [List.drop_length] at hl
        cases hl
        exact .inl ⟨w.stop, q cs' Av' Hi σi (sp1.trans spi) si⟩
    · cases he
  · cases h⟩
theorem loopW_succ {cnd : Rho → Sto → Option (Bool × Sto)} {f : Rho → Sto → Option Fl} {n : Nat} {ρ : Rho} {st : Sto} {fl : Fl} (h : loopW cnd f (n + 1) ρ st = some fl) :
    ∃ t st1, cnd ρ st = some (t, st1) ∧ ((t = false ∧ fl = .nx ρ st1) ∨ (t = true ∧ ∃ f1, f ρ st1 = some f1 ∧ match f1 with
      | .nx ρ1 st1 => loopW cnd f n ρ1 st1 = some fl
      | .ct ρ1 st1 => loopW cnd f n ρ1 st1 = some fl
      | .bk ρ1 st1 => fl = .nx ρ1 st1
      | .rt v st1 => fl = .rt v st1)) := by
  simp only [loopW] at h
  split at h
  · rename_i st1 e; cases h; exact ⟨false, st1, e, .inl ⟨rfl, rfl⟩⟩
  · rename_i st1 e
    refine ⟨true, st1, e, .inr ⟨rfl, ?_⟩⟩
    split at h
    · rename_i ρ1 st1 e; exact ⟨_, e, h⟩
    · rename_i ρ1 st1 e; exact ⟨_, e, h⟩
    · rename_i ρ1 st1 e; cases h; exact ⟨_, e, rfl⟩
    · rename_i v st1 e; cases h; exact ⟨_, e, rfl⟩
    · cases h
  · cases h
theorem ss_while {ce : CE} {b : CSs} (hb : SSs G F k W b) : SS G F k W (.while_ ce b) := ⟨fun {X st} c h => by
  unfold chkS at h
  split at h
  · rename_i e sb hg
    obtain ⟨p, rfl⟩ := getWhile_eq hg
    simp only [Bool.and_eq_true] at h
    obtain ⟨h1, h2⟩ := h
    refine PSimp (ps_while c.hp ((sE G F k ce).t c.c h1) (hb.s c h2)) fun D σ H ⟨H0, Av0, cs, Av, ρ, st, fl, s, he, q⟩ => ?_
    simp only [evS] at he
    generalize hc : (fun ρ st => match evE F ce ρ st with
      | some (x, st1) => match truth x.d with
        | some k => some (k, st1)
        | none => none
      | none => none : Rho → Sto → Option (Bool × Sto)) = cnd at he
    generalize hf : (fun ρ st => evSs F W b ρ st : Rho → Sto → Option Fl) = f at he
    refine ⟨fun m σi Hi => ∃ cs' Av' ρi sti, SR X.K H0 Av0 cs' Av' Hi σi ρi sti ∧ Stp cs Av H cs' Av' Hi ∧ loopW cnd f m ρi sti = some fl, ⟨W, cs, Av, ρ, st, s, Stp.refl, he⟩, ?_⟩
    rintro m σi Hi ⟨cs', Av', ρi, sti, si, spi, hl⟩
    cases m with
    | zero => cases hl
    | succ m =>
      obtain ⟨t, st1, e1, e2⟩ := loopW_succ hl
      have e1' : ∃ x, evE F ce ρi sti = some (x, st1) ∧ truth x.d = some t := by
        rw [← hc] at e1
        simp only at e1
        split at e1
        · rename_i x st1' e3
          split at e1
          · rename_i k' e4; cases e1; exact ⟨x, e3, e4⟩
          · cases e1
        · cases e1
      obtain ⟨x, e3, e4⟩ := e1'
      refine ⟨cs', Av', ρi, sti, x, st1, t, si.ok, si.cl, si.en, e3, e4, fun H1 x1 c1 => ?_⟩
      have s1 := si.ext x1 c1
      have sp1 := spi.trans (Stp.of_ext si.ok x1)
      rcases e2 with ⟨rfl, rfl⟩ | ⟨rfl, f1, e5, e6⟩
      · dsimp only
        rw [if_neg (by decide)]
        exact q cs' Av' H1 σi sp1 s1
      · dsimp only
        rw [if_pos rfl]
        refine ⟨fun σ' Hn => ∃ cs2 Av2 ρn stn, SR X.K H0 Av0 cs2 Av2 Hn σ' ρn stn ∧ Stp cs Av H cs2 Av2 Hn ∧ loopW cnd f m ρn stn = some fl, fun σ' Hn a => ⟨m, Nat.lt_succ_self m, a⟩, ?_⟩
        rw [← hf] at e5
        refine ⟨H0, Av0, cs', Av', ρi, st1, f1, s1, e5, ?_⟩
        cases f1 with
        | nx ρn stn => exact fun cs2 Av2 H2 σ3 sp3 s3 => ⟨cs2, Av2, ρn, stn, s3, sp1.trans sp3, e6⟩
        | ct ρn stn => exact fun cs2 Av2 H2 σ3 sp3 s3 => ⟨cs2, Av2, ρn, stn, s3, sp1.trans sp3, e6⟩
        | bk ρn stn =>
          have e6 : fl = .nx ρn stn := e6
          subst e6
          exact fun cs2 Av2 H2 σ3 sp3 s3 => q cs2 Av2 H2 σ3 (sp1.trans sp3) s3
        | rt v stn =>
          have e6 : fl = .rt v stn := e6
          subst e6
          exact fun cs2 Av2 H2 v3 sp3 => q cs2 Av2 H2 v3 (sp1.trans sp3)
  · cases h⟩
end
mutual
theorem sS (G : Ga) (F : FT) (k W : Nat) : ∀ s : CS, SS G F k W s
  | .expr e => ss_expr
  | .asg (.nm i) e => ss_asgN
  | .asg (.tp ts) e => ss_asgT
  | .asgO i e => ss_asgO
  | .par is es => ss_par
  | .setS i a b => ss_setS
  | .setS2 i a b c d => ss_setS2
  | .setC i a b => ss_setC
  | .app i e => ss_app
  | .ext i e => ss_ext
  | .popAt i e => ss_popAt
  | .appPop t i e => ss_appPop
  | .ret e => ss_ret
  | .retO i => ss_retO
  | .ite c a b => ss_ite (sSs G F k W a) (sSs G F k W b)
  | .for_ t it b => ss_for (sSs G F k W b)
  | .while_ c b => ss_while (sSs G F k W b)
  | .brk => ss_brk
  | .cont => ss_cont
  | .bad => ss_bad
  | .freeze i => ⟨fun {X st} c h => by unfold chkS at h; cases h⟩
  | .mkcell i => ⟨fun {X st} c h => by unfold chkS at h; cases h⟩
  | .raise _ _ => ss_raise0
  | .cgt t i b => ⟨fun {X st} c h => by unfold chkS at h; cases h⟩
  | .cret i b => ⟨fun {X st} c h => by unfold chkS at h; cases h⟩
theorem sSs (G : Ga) (F : FT) (k W : Nat) : ∀ s : CSs, SSs G F k W s
  | .nil => sss_nil
  | .cons (.freeze i) r => sss_freeze (sSs G F k W r)
  | .cons (.mkcell i) r => sss_mkcell (sSs G F k W r)
  | .cons (.expr e) r => sss_cons rfl ss_expr (sSs G F k W r)
  | .cons (.asg t e) r => sss_cons rfl (sS G F k W (.asg t e)) (sSs G F k W r)
  | .cons (.asgO i e) r => sss_cons rfl ss_asgO (sSs G F k W r)
  | .cons (.par is es) r => sss_cons rfl ss_par (sSs G F k W r)
  | .cons (.setS i a b) r => sss_cons rfl ss_setS (sSs G F k W r)
  | .cons (.setS2 i a b c d) r => sss_cons rfl ss_setS2 (sSs G F k W r)
  | .cons (.setC i a b) r => sss_cons rfl ss_setC (sSs G F k W r)
  | .cons (.app i e) r => sss_cons rfl ss_app (sSs G F k W r)
  | .cons (.ext i e) r => sss_cons rfl ss_ext (sSs G F k W r)
  | .cons (.popAt i e) r => sss_cons rfl ss_popAt (sSs G F k W r)
  | .cons (.appPop t i e) r => sss_cons rfl ss_appPop (sSs G F k W r)
  | .cons (.ret e) r => sss_cons rfl ss_ret (sSs G F k W r)
  | .cons (.retO i) r => sss_cons rfl ss_retO (sSs G F k W r)
  | .cons (.ite c a b) r => sss_cons rfl (sS G F k W (.ite c a b)) (sSs G F k W r)
  | .cons (.for_ t it b) r => sss_cons rfl (sS G F k W (.for_ t it b)) (sSs G F k W r)
  | .cons (.while_ c b) r => sss_cons rfl (sS G F k W (.while_ c b)) (sSs G F k W r)
  | .cons .brk r => sss_cons rfl ss_brk (sSs G F k W r)
  | .cons .cont r => sss_cons rfl ss_cont (sSs G F k W r)
  | .cons .bad r => sss_cons rfl ss_bad (sSs G F k W r)
  | .cons (.raise c e) r => sss_cons rfl (sS G F k W (.raise c e)) (sSs G F k W r)
  | .cons (.cgt t i b) r => sss_cons rfl (sS G F k W (.cgt t i b)) (sSs G F k W r)
  | .cons (.cret i b) r => sss_cons rfl (sS G F k W (.cret i b)) (sSs G F k W r)
end
end Ev

set_option Elab.async false
set_option linter.all false
set_option maxRecDepth 100000
set_option maxHeartbeats 4000000
/-! What is raised: the term's exception is the text's. -/
namespace Ev
variable [Zc]
open PySem PySem.Spec PyProof.Rows L2
theorem PS.nox' {X : Cx} {st : Stmt} {t : TS} (h : PS X.nox st t) : PS X st t := ⟨fun pins s σ H D I hw => wpAny_mono (h.run pins s σ H D (I.wish _) hw) (fun f s1 q => q.unwish) fun e s1 z => z.elim⟩
/-- where a body stands that may raise -/
structure Cy (G : Ga) (F : FT) (k : Nat) (X : Cx) (Wx : WX) : Prop where
  c : Cd G F k X
  fn : ∀ x, X.fn x = true
  kd : X.env.scope.kind = .function
  tk : Takes X Wx
  hp : PassesOwn (model X.prog X.w) X.A X.env X.xe
theorem Cd.nox {G : Ga} {F : FT} {k : Nat} {X : Cx} (c : Cd G F k X) : Cd G F k X.nox := ⟨c.N, c.calm, c.gd, c.rm, c.nd, c.gx, fun h => ⟨(c.lm h).code, (c.lm h).z, (c.lm h).stk⟩⟩
theorem Cy.q {G : Ga} {F : FT} {k : Nat} {X : Cx} {Wx : WX} (c : Cy G F k X Wx) : Cq G F k X.nox := ⟨c.c.nox, rfl, c.fn, c.kd⟩
/-- the wish at an exception of a body -/
def PostX (K : PySem.W.Frag) (H0 : Hp) (Av0 : Addr → Prop) (cs : List Addr) (Av : Addr → Prop) (H : Hp) (Wx : WX) (c : Str) (d : D) (st : Sto) : Prop :=
  ∀ cs' Av' H' σ' dd v, Stp cs Av H cs' Av' H' → Cl K cs' Av' H' st → Ext cs' H0 H' → (∀ a, Av0 a → Av' a) → c ∈ Zc.er → H' dd = some (.xd [("value", v)]) → Rp K cs' Av' H' v d → Wx (.ref (He.ga K c)) (some dd) σ' H'
def tXE (K : PySem.W.Frag) (F : FT) (ce : CE) (Wx : WX) : TE := fun σ H _ => ∃ (cs : List Addr) (Av : Addr → Prop) (ρ : Rho) (st : Sto) (c : Str) (d : D) (st' : Sto),
  AvOk cs Av H ∧ Cl K cs Av H st ∧ En K cs Av H σ ρ ∧ xE F ce ρ st = some (c, d, st') ∧ ∀ dd v H', Ext cs H H' → Cl K cs Av H' st' → c ∈ Zc.er → H' dd = some (.xd [("value", v)]) → Rp K cs Av H' v d → Wx (.ref (He.ga K c)) (some dd) σ H'
def tXt (K : PySem.W.Frag) (F : FT) (W : Nat) (s : CS) (Wx : WX) : TS := fun _ σ H => ∃ (H0 : Hp) (Av0 : Addr → Prop) (cs : List Addr) (Av : Addr → Prop) (ρ : Rho) (st : Sto) (c : Str) (d : D) (st' : Sto),
  SR K H0 Av0 cs Av H σ ρ st ∧ xS F W s ρ st = some (c, d, st') ∧ PostX K H0 Av0 cs Av H Wx c d st'
def tXs (K : PySem.W.Frag) (F : FT) (W : Nat) (s : CSs) (Wx : WX) : TS := fun _ σ H => ∃ (H0 : Hp) (Av0 : Addr → Prop) (cs : List Addr) (Av : Addr → Prop) (ρ : Rho) (st : Sto) (c : Str) (d : D) (st' : Sto),
  SR K H0 Av0 cs Av H σ ρ st ∧ xSs F W s ρ st = some (c, d, st') ∧ PostX K H0 Av0 cs Av H Wx c d st'
theorem PostX.step {K : PySem.W.Frag} {cs cs' : List Addr} {Av0 Av Av' : Addr → Prop} {H0 H H' : Hp} {Wx : WX} {c : Str} {d : D} {st : Sto} (a : Stp cs Av H cs' Av' H') (p : PostX K H0 Av0 cs Av H Wx c d st) : PostX K H0 Av0 cs' Av' H' Wx c d st :=
  fun c2 A2 H2 σ2 dd v s => p c2 A2 H2 σ2 dd v (a.trans s)
section
variable {G : Ga} {F : FT} {k W : Nat}
theorem exOf_eq {o : Option (RV × Sto)} {c : Str} {d : D} {st : Sto} (h : exOf o = some (c, d, st)) : o = some (.v (.tuple [.str c, d]), st) := by
  unfold exOf at h
  split at h
  · cases h; rfl
  · cases h
/-- a call that raises -/
theorem xe_call {f : Nat} {es : CEs} {X : Cx} {e : Expr} {w : Bool} {Wx : WX} (c : Cd G F k X) (tk : Takes X Wx) (h : chkE G X.env.scope w (.call f es) e = true) : PE X e (tXE X.K F (.call f es) Wx) := by
  obtain ⟨x, p, y, l, p', rfl, h1, h2, h3, h4⟩ := inv_call h
  have hf : G.fn.lookup f = some x := by
    unfold fnIs at h1
    split at h1
    · rename_i z hz; rw [hz, eq_of_beq h1]
    · cases h1
  obtain ⟨a, fd, ps, hm, hk, FX, hb, hn, _⟩ := c.gx.fx f x hf
  refine ⟨fun pins s σ H Q I ⟨cs, Av, ρ, st, cc, d, st', ok, cl, en, he, q⟩ => ?_⟩
  simp only [xE] at he
  split at he
  · rename_i ds st1 e1
    have he' := exOf_eq he
    refine wpAny_Call_Name_kw (ld_glob I (isGl_of h2) hm ?_ (okN_of h3).1)
    refine PySem.W.callWith_K (h₀ := X.base) I.ok.mod.kin hk (thn (((sEs G F k es).p c h4).run p' pins s σ H (fun vs H1 => spX X.K (F (f + B0)) ps.length vs H1 Q (WE Wx σ)) I ⟨cs, Av, ρ, st, ds, st1, ok, cl, en, e1, fun vs H1 x1 c1 rs => ?_⟩) fun us s1 ⟨vs, H1, I1, rv, q1⟩ => ⟨I1.kIn, ?_⟩) (chkAs_hd h4 _ p').1 (chkAs_hd h4 _ p').2
    · have ok1 := ok.ext x1 c1
      exact ⟨by rw [rs.length]; exact hn _ _ _ he', cs, Av, ds, st1, cc, d, st', ok1, c1, rs, he, fun dd v H' x2 c2 hc hd r2 => q dd v H' (x1.trans x2) c2 hc hd r2⟩
    · have hl : us.length = ps.length := by rw [← rv.length]; exact q1.1
      have hb' := hb s1 us I1.kIn (by simpa using hl)
      rw [List.append_nil] at hb'
      refine wpAny_call (codeAny_mono (FX.run X.A X.stack s1 H1 ⟨us, []⟩ us vs Q (WE Wx σ) c.rm c.gd I1.env0 hb' rv q1) fun r s' hq => ?_)
      cases r with
      | error e => exact passAt tk σ pins H1 s1 e s' I1 hq
      | ok fl =>
        cases fl with
        | ret u => exact I1.after hq
        | next => exact False.elim hq
        | brk => exact False.elim hq
        | cont => exact False.elim hq
  · cases he
structure SX (G : Ga) (F : FT) (k W : Nat) (s : CS) : Prop where
  x : ∀ {X : Cx} {st : Stmt} {Wx : WX}, Cy G F k X Wx → chkS G X.env.scope s st = true → PS X st (tXt X.K F W s Wx)
structure SXs (G : Ga) (F : FT) (k W : Nat) (s : CSs) : Prop where
  x : ∀ {X : Cx} {l : List Stmt} {Wx : WX}, Cy G F k X Wx → chkSs G X.env.scope s l = true → PSs X l (tXs X.K F W s Wx)
theorem sx_never {s : CS} (h : ∀ ρ st, xS F W s ρ st = none) : SX G F k W s := ⟨fun {X st Wx} c hk => PSimp ps_never fun D σ H ⟨H0, Av0, cs, Av, ρ, st, cc, d, st', s, he, q⟩ => by
  rw [h] at he; cases he⟩
/-- an exception of an expression, seen from the body -/
theorem tXE_of {K : PySem.W.Frag} {ce : CE} {Wx : WX} {H0 H : Hp} {Av0 Av : Addr → Prop} {cs : List Addr} {σ : L2.St} {ρ : Rho} {st st' : Sto} {c : Str} {d : D} {Q : VK} (s : SR K H0 Av0 cs Av H σ ρ st) (he : xE F ce ρ st = some (c, d, st')) (q : PostX K H0 Av0 cs Av H Wx c d st') : tXE K F ce Wx σ H Q :=
  ⟨cs, Av, ρ, st, c, d, st', s.ok, s.cl, s.en, he, fun dd v H' x1 c1 hc hd r => q cs Av H' σ dd v (Stp.of_ext s.ok x1) c1 (s.ex.trans x1) s.sub hc hd r⟩
theorem xE_call {ce : CE} {ρ : Rho} {st : Sto} {r : Str × D × Sto} (h : xE F ce ρ st = some r) : ∃ f es, ce = .call f es := by
  unfold xE at h
  split at h
  · exact ⟨_, _, rfl⟩
  · cases h
theorem noC_call {sc : Scope} {f : Nat} {es : CEs} {e : Expr} (h : chkE G sc false (.call f es) e = true) : noComp e = true := by
  obtain ⟨x, p, y, l, p', rfl, _⟩ := inv_call h
  rfl
theorem pes_name {X : Cx} {Wx : WX} (c : Cy G F k X Wx) {i : Nat} {x : Str} (h : chkNm G X.env.scope i x = true) : X.N.Nodup ∧ X.N[i]? = some x ∧ Loc X.env.scope x := by
  obtain ⟨h1, h2⟩ := chkNm_of (X := X.nox) c.q h
  exact ⟨by rw [c.c.N]; exact c.c.nd, h1, h2⟩
theorem sx_expr {ce : CE} : SX G F k W (.expr ce) := by
  by_cases hc : ∃ f es, ce = .call f es
  · obtain ⟨f, es, rfl⟩ := hc
    refine ⟨fun {X st Wx} c h => ?_⟩
    unfold chkS at h
    split at h
    · rename_i e hg
      obtain ⟨p, rfl⟩ := getExpr_eq hg
      simp only [Bool.and_eq_true] at h
      exact PSimp (ps_expr (xe_call c.c c.tk h.1) (swN h.2 _ _ _)) fun D σ H ⟨H0, Av0, cs, Av, ρ, st, cc, d, st', s, he, q⟩ => tXE_of s (by simpa only [xS] using he) q
    · cases h
  · refine sx_never fun ρ st => ?_
    cases z : xS F W (.expr ce) ρ st with
    | none => rfl
    | some r => exact absurd (xE_call (by simpa only [xS] using z)) hc
theorem sx_asgN {i : Nat} {ce : CE} : SX G F k W (.asg (.nm i) ce) := by
  by_cases hc : ∃ f es, ce = .call f es
  · obtain ⟨f, es, rfl⟩ := hc
    refine ⟨fun {X st Wx} c h => ?_⟩
    unfold chkS at h
    split at h
    · rename_i x e hg
      obtain ⟨px, p, rfl⟩ := getAsgN_eq hg
      simp only [Bool.and_eq_true] at h
      obtain ⟨h1, h2, h3⟩ := pes_name c h.1
      exact PSimp (ps_set (i := i) h1 h2 h3 (xe_call c.c c.tk h.2) (swN (noC_call h.2) _ _ _) (.inl (c.fn x))) fun D σ H ⟨H0, Av0, cs, Av, ρ, st, cc, d, st', s, he, q⟩ => tXE_of s (by simpa only [xS] using he) q
    · cases h
  · refine sx_never fun ρ st => ?_
    cases z : xS F W (.asg (.nm i) ce) ρ st with
    | none => rfl
    | some r => exact absurd (xE_call (by simpa only [xS] using z)) hc
theorem sx_asgO {i : Nat} {ce : CE} : SX G F k W (.asgO i ce) := by
  by_cases hc : ∃ f es, ce = .call f es
  · obtain ⟨f, es, rfl⟩ := hc
    refine ⟨fun {X st Wx} c h => ?_⟩
    unfold chkS at h
    split at h
    · rename_i x e hg
      obtain ⟨px, p, rfl⟩ := getAsgN_eq hg
      simp only [Bool.and_eq_true] at h
      obtain ⟨h1, h2, h3⟩ := pes_name c h.1
      exact PSimp (ps_set (i := i) h1 h2 h3 (xe_call c.c c.tk h.2) (swN (noC_call h.2) _ _ _) (.inl (c.fn x))) fun D σ H ⟨H0, Av0, cs, Av, ρ, st, cc, d, st', s, he, q⟩ => tXE_of s (by simpa only [xS] using he) q
    · cases h
  · refine sx_never fun ρ st => ?_
    cases z : xS F W (.asgO i ce) ρ st with
    | none => rfl
    | some r => exact absurd (xE_call (by simpa only [xS] using z)) hc
theorem sx_ret {ce : CE} : SX G F k W (.ret ce) := by
  by_cases hc : ∃ f es, ce = .call f es
  · obtain ⟨f, es, rfl⟩ := hc
    refine ⟨fun {X st Wx} c h => ?_⟩
    unfold chkS at h
    split at h
    · rename_i e hg
      obtain ⟨p, rfl⟩ := getRet_eq hg
      exact PSimp (ps_ret (xe_call c.c c.tk h)) fun D σ H ⟨H0, Av0, cs, Av, ρ, st, cc, d, st', s, he, q⟩ => tXE_of s (by simpa only [xS] using he) q
    · cases h
  · refine sx_never fun ρ st => ?_
    cases z : xS F W (.ret ce) ρ st with
    | none => rfl
    | some r => exact absurd (xE_call (by simpa only [xS] using z)) hc
theorem sx_raise {x : Str} {ce : CE} : SX G F k W (.raise x ce) := ⟨fun {X st Wx} c h => by
  unfold chkS at h
  split at h
  · rename_i y a hg
    obtain ⟨px, pc, p, rfl⟩ := getRaise_eq hg
    simp only [Bool.and_eq_true] at h
    obtain ⟨⟨⟨⟨⟨h1, h2⟩, h3⟩, h4⟩, h5⟩, h6⟩ := h
    obtain rfl := eq_of_beq h1
    have hm : y ∈ G.er := by simpa using h4
    refine PSimp (ps_raise c.c.calm c.tk (pmk_rung (c.c.gx.er.all y hm) c.c.gx.er.sup (c.c.rm.mono (Nat.zero_le _)) (isGl_of h2) ((sE G F k ce).s c.c h6) (okN_of h3).1 (star_plain h5 _ _))) fun D σ H ⟨H0, Av0, cs, Av, ρ, st, cc, d, st', s, he, q⟩ => ?_
    simp only [xS] at he
    split at he
    · rename_i r st1 e1
      cases he
      refine ⟨cs, Av, ρ, st, r, _, s.ok, s.cl, s.en, e1, fun v H1 x1 c1 r1 dd hd => ?_⟩
      have s1 := s.ext x1 c1
      have x2 : Ext [] H1 (upd H1 dd (.xd [("value", v)])) := Ext.upd hd
      have r2 : Rp X.K cs Av (upd H1 dd (.xd [("value", v)])) v r.d := (r1.1.rp s.ok.there).ext s1.ok x2.all
      exact q cs Av _ σ dd v ((Stp.of_ext s.ok x1).trans (Stp.of_ext s1.ok x2.all)) (c1.ext s1.ok x2) (s.ex.trans (x1.trans x2.all)) s.sub (by rw [← c.c.gx.eq]; exact hm) upd_same r2
    · cases he
  · cases h⟩
theorem sx_ite {ce : CE} {a b : CSs} (ha : SXs G F k W a) (hb : SXs G F k W b) : SX G F k W (.ite ce a b) := ⟨fun {X st Wx} c h => by
  unfold chkS at h
  split at h
  · rename_i e sa sb hg
    obtain ⟨p, rfl⟩ := getIf_eq hg
    simp only [Bool.and_eq_true] at h
    obtain ⟨h1, h2, h3⟩ := h
    refine PSimp (ps_if ((sE G F k ce).t c.c h1) (ha.x c h2) (hb.x c h3)) fun D σ H ⟨H0, Av0, cs, Av, ρ, st, cc, d, st', s, he, q⟩ => ?_
    simp only [xS] at he
    split at he
    · rename_i r st1 e1
      split at he
      · rename_i e2
        refine ⟨cs, Av, ρ, st, r, st1, true, s.ok, s.cl, s.en, e1, e2, fun H1 x1 c1 => ?_⟩
        dsimp only
        rw [if_pos rfl]
        exact ⟨H0, Av0, cs, Av, ρ, st1, cc, d, st', s.ext x1 c1, he, q.step (Stp.of_ext s.ok x1)⟩
      · rename_i e2
        refine ⟨cs, Av, ρ, st, r, st1, false, s.ok, s.cl, s.en, e1, e2, fun H1 x1 c1 => ?_⟩
        dsimp only
        rw [if_neg (by decide)]
        exact ⟨H0, Av0, cs, Av, ρ, st1, cc, d, st', s.ext x1 c1, he, q.step (Stp.of_ext s.ok x1)⟩
      · cases he
    · cases he
  · cases h⟩
/-- either way -/
theorem PS.or {X : Cx} {st : Stmt} {t u : TS} (a : PS X st t) (b : PS X st u) : PS X st (fun D σ H => t D σ H ∨ u D σ H) := ⟨fun pins s σ H D I h => h.elim (a.run pins s σ H D I) (b.run pins s σ H D I)⟩
theorem PSs.or {X : Cx} {st : List Stmt} {t u : TS} (a : PSs X st t) (b : PSs X st u) : PSs X st (fun D σ H => t D σ H ∨ u D σ H) := ⟨fun pins s σ H D I h => h.elim (a.run pins s σ H D I) (b.run pins s σ H D I)⟩
theorem sxs_cons {s : CS} {r : CSs} (ht : isTx s = true) (hs : SX G F k W s) (hr : SXs G F k W r) : SXs G F k W (.cons s r) := ⟨fun {X l Wx} c h => by
  obtain ⟨st, l', rfl, h1, h2⟩ := chkSs_cons ht h
  refine PSsimp (pss_cons (Ev.PS.or (Ev.PS.nox' ((sS G F k W s).s c.q h1)) (hs.x c h1)) (hr.x c h2)) fun D σ H ⟨H0, Av0, cs, Av, ρ, st, cc, d, st', s, he, q⟩ => ?_
  simp only [xSs] at he
  split at he
  · rename_i ρ1 st1 e1
    refine .inl ⟨H0, Av0, cs, Av, ρ, st, _, s, e1, fun cs' Av' H' σ' sp s' => ?_⟩
    exact ⟨H0, Av0, cs', Av', ρ1, st1, cc, d, st', s', he, q.step sp⟩
  · cases he
  · exact .inr ⟨H0, Av0, cs, Av, ρ, st, cc, d, st', s, he, q⟩⟩
theorem sxs_nil : SXs G F k W .nil := ⟨fun {X l Wx} c h => by
  cases l with
  | cons => exact ff h
  | nil => exact PSsimp pss_nil fun D σ H ⟨H0, Av0, cs, Av, ρ, st, cc, d, st', s, he, q⟩ => by simp [xSs] at he⟩
theorem sxs_freeze {i : Nat} {r : CSs} (hr : SXs G F k W r) : SXs G F k W (.cons (.freeze i) r) := ⟨fun {X l Wx} c h => by
  have h : chkSs G X.env.scope r l = true := by unfold chkSs at h; exact h
  refine PSsimp (hr.x c h) fun D σ H ⟨H0, Av0, cs, Av, ρ, st, cc, d, st', s, he, q⟩ => ?_
  simp only [xSs, evS, xS] at he
  split at he
  · rename_i ρ1 st1 e1
    split at e1
    · rename_i ds hds
      cases e1
      obtain ⟨Av', s', sp⟩ := s.freeze hds
      exact ⟨H0, Av0, cs, Av', _, _, cc, d, st', s', he, q.step sp⟩
    · cases e1
  · cases he
  · cases he⟩
theorem sxs_mkcell {i : Nat} {r : CSs} (hr : SXs G F k W r) : SXs G F k W (.cons (.mkcell i) r) := ⟨fun {X l Wx} c h => by
  have h : chkSs G X.env.scope r l = true := by unfold chkSs at h; exact h
  refine PSsimp (hr.x c h) fun D σ H ⟨H0, Av0, cs, Av, ρ, st, cc, d, st', s, he, q⟩ => ?_
  simp only [xSs, evS, xS] at he
  split at he
  · rename_i ρ1 st1 e1
    split at e1
    · rename_i ds hds
      cases e1
      obtain ⟨a, s', sp⟩ := s.mkcell hds
      exact ⟨H0, Av0, cs ++ [a], Av, _, _, cc, d, st', s', he, q.step sp⟩
    · cases e1
  · cases he
  · cases he⟩
theorem loopX_cons {f : D → Rho → Sto → Option Fl} {g : D → Rho → Sto → Option (Str × D × Sto)} {x : D} {r : List D} {ρ : Rho} {st : Sto} {o : Str × D × Sto} (h : loopX f g (x :: r) ρ st = some o) :
    (∃ f1, f x ρ st = some f1 ∧ match f1 with
      | .nx ρ1 st1 => loopX f g r ρ1 st1 = some o
      | .ct ρ1 st1 => loopX f g r ρ1 st1 = some o
      | _ => False) ∨ (f x ρ st = none ∧ g x ρ st = some o) := by
  simp only [loopX] at h
  split at h
  · rename_i ρ1 st1 e; exact .inl ⟨_, e, h⟩
  · rename_i ρ1 st1 e; exact .inl ⟨_, e, h⟩
  · cases h
  · rename_i e; exact .inr ⟨e, h⟩
theorem sx_for {t : Tg} {it : CI} {b : CSs} (hb : SXs G F k W b) : SX G F k W (.for_ t it b) := ⟨fun {X st Wx} c h => by
  unfold chkS at h
  split at h
  · rename_i te ie sb hg
    obtain ⟨p, rfl⟩ := getFor_eq hg
    simp only [Bool.and_eq_true] at h
    obtain ⟨h1, h2, h3, h4⟩ := h
    refine PSimp (ps_for c.hp c.c.calm ((sI G F k it).i c.c h2) (tg_ok (fp := fun _ => true) c.c (fun x _ => c.fn x) h1) (Ev.PSs.or (PSs.nox ((sSs G F k W b).s c.q h4)) (hb.x c h4)) (foldOk h3 _)) fun D σ H ⟨H0, Av0, cs, Av, ρ, st, cc, d, st', s, he, q⟩ => ?_
    simp only [xS] at he
    split at he
    case h_2 => cases he
    rename_i ds st1 e1
    refine ⟨cs, Av, ρ, st, ds, st1, s.ok, s.cl, s.en, e1, fun J H1 x1 c1 wk => ?_⟩
    rw [avOf_f] at wk
    have s1 := s.ext x1 c1
    have sp1 := Stp.of_ext s.ok x1
    generalize hf : (fun d ρ st => match bindTg t d ρ with
      | some ρ1 => evSs F W b ρ1 st
      | none => none : PyData → Rho → Sto → Option Fl) = f at he
    generalize hgg : (fun d ρ st => match bindTg t d ρ with
      | some ρ1 => xSs F W b ρ1 st
      | none => none : PyData → Rho → Sto → Option (Str × PyData × Sto)) = g at he
    refine ⟨fun i m σi Hi => i ≤ ds.length ∧ m = ds.length - i ∧ ∃ cs' Av' ρi sti, SR X.K H0 Av0 cs' Av' Hi σi ρi sti ∧ Stp cs Av H1 cs' Av' Hi ∧ loopX f g (ds.drop i) ρi sti = some (cc, d, st'), ⟨ds.length, Nat.zero_le _, rfl, cs, Av, ρ, st1, s1, Stp.refl, he⟩, ?_⟩
    rintro i m σi Hi ⟨hi, rfl, cs', Av', ρi, sti, si, spi, hl⟩
    have w := wk.later s1.ok spi
    by_cases hlt : i < ds.length
    · have hd : ds[i]? = some ds[i] := List.getElem?_eq_getElem hlt
      rw [drop_at hd] at hl
      refine .inr ⟨w.go hlt, fun σ' Hn => ∃ cs2 Av2 ρn stn, SR X.K H0 Av0 cs2 Av2 Hn σ' ρn stn ∧ Stp cs Av H1 cs2 Av2 Hn ∧ loopX f g (ds.drop (i + 1)) ρn stn = some (cc, d, st'), fun σ' Hn ⟨cs2, Av2, ρn, stn, a1, a2, a3⟩ => ⟨ds.length - (i + 1), by omega, by omega, rfl, cs2, Av2, ρn, stn, a1, a2, a3⟩, fun x Hy y => ?_⟩
      obtain ⟨dd, hd', ex, rp⟩ := w.yld si.ok hlt y
      rw [hd] at hd'
      cases hd'
      have sy := si.ext ex.all (si.cl.ext si.ok ex)
      have spy := spi.trans (Stp.of_ext si.ok ex.all)
      rcases loopX_cons hl with ⟨f1, e2, e3⟩ | ⟨e2, e3⟩
      · rw [← hf] at e2
        simp only at e2
        split at e2
        · rename_i ρ1 hb1
          refine ⟨cs', Av', ρi, ds[i], ρ1, sy.en, rp.to (pr_tp h2 h1), hb1, fun σ2 ap en2 => .inl ?_⟩
          have s2 := sy.bind hb1 ap en2
          refine ⟨H0, Av0, cs', Av', ρ1, sti, f1, s2, e2, ?_⟩
          cases f1 with
          | nx ρn stn => exact fun cs2 Av2 H2 σ3 sp3 s3 => ⟨cs2, Av2, ρn, stn, s3, spy.trans sp3, e3⟩
          | ct ρn stn => exact fun cs2 Av2 H2 σ3 sp3 s3 => ⟨cs2, Av2, ρn, stn, s3, spy.trans sp3, e3⟩
          | bk ρn stn => exact False.elim e3
          | rt v stn => exact False.elim e3
        · cases e2
      · rw [← hgg] at e3
        simp only at e3
        split at e3
        · rename_i ρ1 hb1
          refine ⟨cs', Av', ρi, ds[i], ρ1, sy.en, rp.to (pr_tp h2 h1), hb1, fun σ2 ap en2 => .inr ?_⟩
          have s2 := sy.bind hb1 ap en2
          exact ⟨H0, Av0, cs', Av', ρ1, sti, cc, d, st', s2, e3, (q.step sp1).step spy⟩
        · cases e3
    · have hi' : i = ds.length := by omega
      subst hi'
      rw [List.drop_length] at hl
      cases hl
  · cases h⟩
mutual
theorem xSok (G : Ga) (F : FT) (k W : Nat) : ∀ s : CS, SX G F k W s
  | .expr e => sx_expr
  | .asg (.nm i) e => sx_asgN
  | .asg (.tp ts) e => sx_never fun ρ st => by simp [xS]
  | .asgO i e => sx_asgO
  | .ret e => sx_ret
  | .raise c e => sx_raise
  | .ite c a b => sx_ite (xSsok G F k W a) (xSsok G F k W b)
  | .for_ t it b => sx_for (xSsok G F k W b)
  | .par is es => sx_never fun ρ st => by simp [xS]
  | .setS i a b => sx_never fun ρ st => by simp [xS]
  | .setS2 i a b c d => sx_never fun ρ st => by simp [xS]
  | .setC i a b => sx_never fun ρ st => by simp [xS]
  | .app i e => sx_never fun ρ st => by simp [xS]
  | .ext i e => sx_never fun ρ st => by simp [xS]
  | .popAt i e => sx_never fun ρ st => by simp [xS]
  | .appPop t i e => sx_never fun ρ st => by simp [xS]
  | .retO i => sx_never fun ρ st => by simp [xS]
  | .while_ c b => sx_never fun ρ st => by simp [xS]
  | .brk => sx_never fun ρ st => by simp [xS]
  | .cont => sx_never fun ρ st => by simp [xS]
  | .bad => sx_never fun ρ st => by simp [xS]
  | .freeze i => sx_never fun ρ st => by simp [xS]
  | .mkcell i => sx_never fun ρ st => by simp [xS]
  | .cgt t i b => sx_never fun ρ st => by simp [xS]
  | .cret i b => sx_never fun ρ st => by simp [xS]
theorem xSsok (G : Ga) (F : FT) (k W : Nat) : ∀ s : CSs, SXs G F k W s
  | .nil => sxs_nil
  | .cons (.freeze i) r => sxs_freeze (xSsok G F k W r)
  | .cons (.mkcell i) r => sxs_mkcell (xSsok G F k W r)
  | .cons (.expr e) r => sxs_cons rfl sx_expr (xSsok G F k W r)
  | .cons (.asg t e) r => sxs_cons rfl (xSok G F k W (.asg t e)) (xSsok G F k W r)
  | .cons (.asgO i e) r => sxs_cons rfl sx_asgO (xSsok G F k W r)
  | .cons (.par is es) r => sxs_cons rfl (xSok G F k W (.par is es)) (xSsok G F k W r)
  | .cons (.setS i a b) r => sxs_cons rfl (xSok G F k W (.setS i a b)) (xSsok G F k W r)
  | .cons (.setS2 i a b c d) r => sxs_cons rfl (xSok G F k W (.setS2 i a b c d)) (xSsok G F k W r)
  | .cons (.setC i a b) r => sxs_cons rfl (xSok G F k W (.setC i a b)) (xSsok G F k W r)
  | .cons (.app i e) r => sxs_cons rfl (xSok G F k W (.app i e)) (xSsok G F k W r)
  | .cons (.ext i e) r => sxs_cons rfl (xSok G F k W (.ext i e)) (xSsok G F k W r)
  | .cons (.popAt i e) r => sxs_cons rfl (xSok G F k W (.popAt i e)) (xSsok G F k W r)
  | .cons (.appPop t i e) r => sxs_cons rfl (xSok G F k W (.appPop t i e)) (xSsok G F k W r)
  | .cons (.ret e) r => sxs_cons rfl sx_ret (xSsok G F k W r)
  | .cons (.retO i) r => sxs_cons rfl (xSok G F k W (.retO i)) (xSsok G F k W r)
  | .cons (.ite c a b) r => sxs_cons rfl (xSok G F k W (.ite c a b)) (xSsok G F k W r)
  | .cons (.for_ t it b) r => sxs_cons rfl (xSok G F k W (.for_ t it b)) (xSsok G F k W r)
  | .cons (.while_ c b) r => sxs_cons rfl (xSok G F k W (.while_ c b)) (xSsok G F k W r)
  | .cons .brk r => sxs_cons rfl (xSok G F k W .brk) (xSsok G F k W r)
  | .cons .cont r => sxs_cons rfl (xSok G F k W .cont) (xSsok G F k W r)
  | .cons .bad r => sxs_cons rfl (xSok G F k W .bad) (xSsok G F k W r)
  | .cons (.raise c e) r => sxs_cons rfl sx_raise (xSsok G F k W r)
  | .cons (.cgt t i b) r => sxs_cons rfl (xSok G F k W (.cgt t i b)) (xSsok G F k W r)
  | .cons (.cret i b) r => sxs_cons rfl (xSok G F k W (.cret i b)) (xSsok G F k W r)
end
end
end Ev

set_option Elab.async false
set_option linter.all false
set_option maxRecDepth 100000
set_option maxHeartbeats 4000000
/-! Defs that catch: what is caught is known from then on. -/
namespace Ev
variable [Zc]
open PySem PySem.Spec PyProof.Rows L2
/-- an object that was not there at the entry, nor is the frame's, is known from now on -/
theorem inv_track {X : Cx} {pins : List (Addr × Obj)} {σ : L2.St} {H : Hp} {s : Shared} {a : Addr} {o : Obj} (I : Inv X pins σ H s) (hg : s.heap.get? a = some o) (hn : H a = none) (h0 : X.s_0.heap.get? a = none) (hL : a ≠ X.env.locals) (hC : ∀ x c, X.env.cells.lookup x = some c → c ≠ a) (hp : ∀ p ∈ X.pn ++ pins, p.1 ≠ a) :
    Inv X pins σ (upd H a (.frz o anyH)) s := by
  have ne : ∀ {b : Addr} {u : HO}, H b = some u → b ≠ a := fun {b u} z => ne_of_none z hn
  have n0 : ∀ {b : Addr} {u : Obj}, X.s_0.heap.get? b = some u → b ≠ a := fun {b u} z y => by rw [y, h0] at z; cases z
  have B := I.base
  refine ⟨I.ok, I.os, I.bare, ⟨B.keep, B.slot, fun b u z n x => ?_, B.there, fun b xs z => ?_, fun b u v z => ?_, fun b qs z => ?_⟩, I.loc, I.cell, ?_, fun x c z => ?_, fun p z => ?_, fun b u z => ?_, I.len⟩
  · rw [upd_ne (n0 z)]; exact B.free b u z n x
  · have w := B.tups b xs z
    rw [upd_ne (ne w)]; exact w
  · have w := B.frzs b u v z
    rw [upd_ne (ne w)]; exact w
  · obtain ⟨m, w⟩ := B.tbls b qs z
    exact ⟨m, by rw [upd_ne (ne w)]; exact w⟩
  · rw [upd_ne (Ne.symm hL)]; exact I.free
  · rw [upd_ne (hC x c z)]; exact I.freeC x c z
  · obtain ⟨w1, w2, w3⟩ := I.pin p z
    exact ⟨w1, by rw [upd_ne (hp p z)]; exact w2, w3⟩
  · by_cases hb : b = a
    · subst hb
      rw [upd_same] at z
      cases z
      exact anyOk hg
    · rw [upd_ne hb] at z
      exact (I.hok b u z).stay (fun _ _ _ w => w) (fun c w => by rw [upd_ne (ne w)]; exact w) fun c xs w => by rw [upd_ne (ne w)]; exact w
/-- what is wished of an exception that is caught, and known behind the suite -/
def wKeep (K : PySem.W.Frag) (c : Value) (i : Nat) (ts : Addr → TS) (D : Ends) : WX := fun cls d σ H => PySem.W.exmOne K cls c = some true ∧
  ∀ (a : Addr) (o : Obj), H a = none → o.cls = cls → o.dict = d → (∃ vs, o.data = .fields vs) →
    ts a { nx := fun σ' H' => H' a = none → D.nx (σ'.set i none) (upd H' a (.frz o anyH)), rt := fun v H' => H' a = none → D.rt v (upd H' a (.frz o anyH)) } (σ.set i (some (.ref a))) H
section
variable {X : Cx} {x n : Str} {c : Value} {i : Nat} {body suite : List Stmt} {b₀ : Stmt} {np pos pos' : Pos} {tb : WX → TS} {ts : Addr → TS}
theorem ps_try_keep (hs : X.stack = X.env :: X.outer) (hex : X.ex = []) (hf : X.env.frame = some X.env.locals) (hN : X.N.Nodup) (hi : X.N[i]? = some n) (hln : X.env.kindOf n = some .local) (hc : Names X x c)
    (hb : ∀ (W : WX) (pn : List (Addr × Obj)) (xe : Value → Shared → Prop), Takes (X.tr pn xe) W → PSs (X.tr pn xe) body (tb W))
    (hsu : ∀ (a : Addr) (pn : List (Addr × Obj)), PSs (X.suite a pn) (b₀ :: suite) (ts a)) :
    PS X (.Try body [.ExceptHandler (some (.Name x np)) (some n) (b₀ :: suite) pos'] [] [] pos) (fun D σ H => tb (wKeep X.K c i ts D) D σ H) := by
  refine ⟨fun pins s σ H D I ht => ?_⟩
  have ok := I.ok
  have frm : X.A.frames = some (X.env :: X.outer) := ok.frames.trans (congrArg some hs)
  refine wpAny_Try_except (wpAny_mono ((hb (wKeep X.K c i ts D) (X.pn ++ pins) (fun e z1 => wpAny (model X.prog X.w) X.A (noteFrame e X.env) (fun _ z2 => wpAny (model X.prog X.w) X.A (setFlight e none) (fun _ z3 =>
    wpAny (model X.prog X.w) X.A (handleBy e X.env [.ExceptHandler (some (.Name x np)) (some n) (b₀ :: suite) pos']) (SP X pins D) X.xe z3) X.xe z2) X.xe z1) ?caught).run [] s σ H D (I.toTry _) ht) (fun fl s1 q => ?ends) (fun e s1 q => q))
  case ends =>
    cases fl with
    | next => obtain ⟨σ1, H1, J, q⟩ := q; exact wpAny_execs_nil ⟨σ1, H1, J.ofTry ok, q⟩
    | brk => obtain ⟨σ1, H1, J, q⟩ := q; exact ⟨σ1, H1, J.ofTry ok, q⟩
    | cont => obtain ⟨σ1, H1, J, q⟩ := q; exact ⟨σ1, H1, J.ofTry ok, q⟩
    | ret u => obtain ⟨v, σ1, H1, J, rv, q⟩ := q; exact ⟨v, σ1, H1, J.ofTry ok, rv, q⟩
  case caught =>
    rintro u z0 ⟨a, B, sI, pinsI, σ1, H1, cls, d, rfl, J0, nb, up, sky, na, hos, ag, hm, hw⟩
    have J : Inv X pins σ1 H1 sI := J0.ofTry ok
    have sky : Sky B (X.env :: X.outer) a (L2.Zc cls d) X.env.locals z0.heap := by rw [← hs]; exact sky
    show wpAny (model X.prog X.w) X.A (noteFrame (.ref a) X.env) _ _ _
    refine Sky.land L2.Zc.steady frm hf sky fun h3 fl3 up3 => ?_
    have J3 : Inv X pins σ1 H1 { z0 with heap := h3 } := J.landed nb fl3.1 (up.trans up3) hos ag
    obtain ⟨o3, vs3, ho3, hz3, hd3⟩ := fl3.there
    have nfr : a ∉ frs (X.env :: X.outer) := fun hm => by
      obtain ⟨_, o', e', hnf⟩ := fl3.2.2.1.mem hm
      rw [ho3] at e'; cases e'
      exact hnf _ hd3
    have nL : a ≠ X.env.locals := fun z => nfr (List.mem_filterMap.mpr ⟨X.env, List.mem_cons_self, by rw [hf, z]⟩)
    have nF : a ∉ X.fs := fun hm => by
      obtain ⟨e, he, q⟩ := List.mem_filterMap.mp hm
      exact nfr (List.mem_filterMap.mpr ⟨e, List.mem_cons_of_mem _ he, q⟩)
    -- it did not stand ahead of the flight
    have newI : sI.heap.get? a = none := by
      cases z : sI.heap.get? a with
      | none => rfl
      | some o =>
        have w := nb a o z (by rw [hs]; exact nfr)
        have w2 : B.get? a = none := fl3.2.1
        rw [w2] at w; cases w
    have new0 : X.s_0.heap.get? a = none := by
      cases z : X.s_0.heap.get? a with
      | none => rfl
      | some o =>
        obtain ⟨o', w⟩ := J.base.there a o z (by rw [hex]; simp)
        rw [newI] at w; cases w
    have nC : ∀ y c', X.env.cells.lookup y = some c' → c' ≠ a := fun y c' e z => by
      obtain ⟨v, o, w, _⟩ := J.cell y c' e
      rw [z, newI] at w; cases w
    have nP : ∀ p ∈ X.pn ++ pins, p.1 ≠ a := fun p hp z => by
      have w := (J.pin p hp).1
      rw [z, newI] at w; cases w
    refine wpAny_handleBy_cons (codeAny_handlers_test ?_) (by intro q; cases q)
    have S3 := J3.suite ho3 hd3 na nL nF
    have LT : PySem.W.Looks (model X.prog X.w) h3 (typeOf (.ref a)) cls := fun A' Q' E' s' k' q' => wpAny_typeOf_ref (k' _ _ ho3) (by rw [hz3.1]; exact q')
    have LM := PySem.W.exm_one (M := model X.prog X.w) (J3.kIn) LT hm
    have test : ∀ {Q' : Value → Shared → Prop} {E' : Value → Shared → Prop}, Q' c { z0 with heap := h3 } → wpAny (model X.prog X.w) (X.A.mark (some (.ref a))) (eval (.Name x np) X.env) Q' E' { z0 with heap := h3 } := fun {Q' E'} q' => by
      obtain ⟨hgl, hdb, hmg | ⟨hmg, hv, hnn⟩⟩ := hc
      · exact ld_glob (X := X.suite a ((a, o3) :: (X.pn ++ pins))) S3 hgl hmg q' hdb
      · exact ld_blt (X := X.suite a ((a, o3) :: (X.pn ++ pins))) S3 hgl hmg hv q' hnn hdb
    refine test (LM.here ?_)
    refine codeAny_handlers_suite_as ?_
    refine HandSPX.lands_againZ fl3 fun h4 fl4 up4 => ?_
    have J4 : Inv X pins σ1 H1 { z0 with heap := h4 } := J.landed nb fl4.1 ((up.trans up3).trans up4) hos ag
    obtain ⟨o4, vs4, ho4, hz4, hd4⟩ := fl4.there
    have S4 := J4.suite ho4 hd4 na nL nF
    refine store_ok (X := X.suite a ((a, o4) :: (X.pn ++ pins))) (v := .ref a) S4 hN hi (.inl hln) rfl (fun s5 S5 => ?_) (.inr hln)
    refine wpAny_mono ((hsu a ((a, o4) :: (X.pn ++ pins))).run [] s5 _ H1 _ S5 (hw a o4 na hz4.1 hz4.2 ⟨_, hd4⟩)) (fun f s6 hsp => ?_) (fun _ _ z => False.elim z)
    have fin : ∀ {σ6 : L2.St} {H6 : Hp} {Q' : Shared → Prop}, Inv (X.suite a ((a, o4) :: (X.pn ++ pins))) [] σ6 H6 s6 → (H6 a = none → ∀ s7, Inv X pins (σ6.set i none) (upd H6 a (.frz o4 anyH)) s7 → Q' s7) →
        wpAny (model X.prog X.w) X.A (do bindName X.env n .none; unbindBehindTheSuite X.env n pos') (fun _ s7 => Q' s7) X.xe s6 := fun {σ6 H6 Q'} S6 hq => by
      obtain ⟨w1, w2, _⟩ := S6.pin (a, o4) (List.mem_append_left _ List.mem_cons_self)
      exact gone_ok (inv_track (S6.unsuite ok) w1 w2 new0 nL nC nP) hN hi hln (hq w2)
    cases f with
    | next =>
      obtain ⟨σ6, H6, S6, q6⟩ := hsp
      exact fin S6 fun w s7 J7 => ⟨_, _, J7, q6 w⟩
    | brk =>
      obtain ⟨σ6, H6, S6, q6⟩ := hsp
      exact False.elim q6
    | cont =>
      obtain ⟨σ6, H6, S6, q6⟩ := hsp
      exact False.elim q6
    | ret u =>
      obtain ⟨v6, σ6, H6, S6, r6, q6⟩ := hsp
      exact fin S6 fun w s7 J7 => ⟨_, _, _, J7, r6, q6 w⟩
/-! ### look(), within a def that got the closure -/
/-- what OcP asks, as a wish of the frame -/
def tLook (K : PySem.W.Frag) (Av : Addr → Prop) (H0 : Hp) (i : Nat) (f : Addr) (o : Oc) (Wx : WX) : TE := fun σ H Q => σ[i]? = some (some (.ref f)) ∧ AvOk [] Av H ∧ Ext [] H0 H ∧ OcP K Av H Q (fun cls d H' => Wx cls d σ H') o
theorem pe_look {X : Cx} {pn : List (Addr × Obj)} {xe : Value → Shared → Prop} {Wx : WX} {j i : Nat} {a : Str} {p1 p2 : Pos} {Av : Addr → Prop} {f : Addr} {o : Oc} (P : ClP X.prog X.w X.K X.mg X.base j X.outer X.s_0 X.H_0 Av f o) (hex : X.ex = []) (hr : Room j X.A) (hg : X.A.guards = some [])
    (tk : Takes (X.tr pn xe) Wx) (hN : X.N[i]? = some a) (hv : Vis X.env.scope a) (hd : okN a = true) : PE (X.tr pn xe) (.Call (.Name a p1) [] [] p2) (tLook X.K Av X.H_0 i f o Wx) := by
  refine ⟨fun pins s σ H Q I ⟨h1, h2, h3, h4⟩ => ?_⟩
  refine wpAny_Call_Name_kw (thn ((pe_var (X := X.tr pn xe) (pos := p1) (i := i) hN hv (okN_of hd).1 (okN_of hd).2.1).run pins s σ H (fun v H1 => v = .ref f ∧ H1 = H) I ⟨.ref f, h1, rfl, rfl⟩) fun u s1 ⟨v, H1, I1, r1, ev, eH⟩ => ?_)
  subst ev
  subst eH
  cases (show u = Value.ref f from r1)
  obtain ⟨ob, uo, z1, z2⟩ := P.at_
  have un : Un (frs X.outer) [] X.H_0 H1 X.s_0.heap s1.heap := by
    have z := I1.base
    rw [show (X.tr pn xe).ex = [] from hex] at z
    exact z
  obtain ⟨w1, _⟩ := I1.hok f _ (un.frzs f _ _ z1)
  refine PySem.W.callWith_F0 (z2 _ w1) ?_
  refine wpAny_call (codeAny_mono (P.run X.A X.stack s1 H1 Q (fun cls d H' => Wx cls d σ H') hr hg I1.env0 un h2 h3 h4) fun r s' hq => ?_)
  cases r with
  | error e => exact passAt tk σ pins H1 s1 e s' I1 hq
  | ok fl =>
    cases fl with
    | ret u => exact I1.after hq
    | next => exact False.elim hq
    | brk => exact False.elim hq
    | cont => exact False.elim hq
/-- a try in a context that nothing leaves -/
theorem start_at {N : List Str} {vs : List V} {i : Nat} {v : V} (h : vs[i]? = some v) : (L2.start N vs)[i]? = some (some v) := by
  unfold L2.start
  have hl : i < vs.length := (List.getElem?_eq_some_iff.mp h).1
  rw [List.getElem?_append_left (by simpa using hl), List.getElem?_map, h]
  rfl
theorem exc_rp {K : PySem.W.Frag} {cs : List Addr} {Av : Addr → Prop} {H : Hp} {c : Str} {d : D} {dd a : Addr} {o : Obj} {v : V} {u : HO} (hc : c ∈ Zc.er) (h0 : H a = some (.frz o u)) (h1 : o.cls = .ref (He.ga K c)) (h2 : o.dict = some dd) (h3 : ∃ vs, o.data = .fields vs) (h4 : H dd = some (.xd [("value", v)])) (r : Rp K cs Av H v d) :
    Rp K cs Av H (.ref a) (excD c d) := .exc hc h0 h1 h2 h3 h4 r
end
/-! ### the two texts of a def that catches -/
/-- caught, back = None, None / try: back = look() / except RungError as error: caught = error / return (caught, back) -/
def isV1 (sc : Scope) (N ps : List Str) : List Stmt → Bool
  | [.Assign [.Tuple [.Name c1 _, .Name b1 _] _ _] (.Tuple [.Constant .none _ _, .Constant .none _ _] _ _) _, .Try [.Assign [.Name b2 _] (.Call (.Name a _) [] [] _) _] [.ExceptHandler (some (.Name r _)) (some e) [.Assign [.Name c2 _] (.Name e2 _) _] _] [] [] _, .Return (some (.Tuple [.Name c3 _, .Name b3 _] _ _)) _] =>
    ps == [a] && (N == [a, c1, b1, e]) && c2 == c1 && c3 == c1 && b2 == b1 && b3 == b1 && e2 == e && r == ("RungError" : Str) && isLoc1 sc a && isLoc1 sc c1 && isLoc1 sc b1 && isLoc1 sc e && isGl sc r && okN a && okN c1 && okN b1 && okN e
  | _ => false
/-- try: look() / except RungError as caught: return caught / return None -/
def isV2 (sc : Scope) (N ps : List Str) : List Stmt → Bool
  | [.Try [.Expr (.Call (.Name a _) [] [] _) _] [.ExceptHandler (some (.Name r _)) (some e) [.Return (some (.Name e2 _)) _] _] [] [] _, .Return (some (.Constant .none _ _)) _] =>
    ps == [a] && (N == [a, e]) && e2 == e && r == ("RungError" : Str) && isLoc1 sc a && isLoc1 sc e && isGl sc r && okN a && okN e
  | _ => false
theorem isV1_inv {sc : Scope} {N ps : List Str} {body : List Stmt} (h : isV1 sc N ps body = true) : ∃ a c1 b1 e q1 q2 k1 q3 k2 q4 k3 q5 k4 q6 q7 q8 q9 q10 q11 q12 q13 q14 q15 q16 q17 q18 q19 k5 q20 q21,
    body = [.Assign [.Tuple [.Name c1 q1, .Name b1 q2] k1 q3] (.Tuple [.Constant .none k2 q4, .Constant .none k3 q5] k4 q6) q7, .Try [.Assign [.Name b1 q8] (.Call (.Name a q9) [] [] q10) q11] [.ExceptHandler (some (.Name "RungError" q12)) (some e) [.Assign [.Name c1 q13] (.Name e q14) q15] q16] [] [] q17, .Return (some (.Tuple [.Name c1 q18, .Name b1 q19] k5 q20)) q21] ∧
    ps = [a] ∧ N = [a, c1, b1, e] ∧ isLoc1 sc a = true ∧ isLoc1 sc c1 = true ∧ isLoc1 sc b1 = true ∧ isLoc1 sc e = true ∧ isGl sc "RungError" = true ∧ okN a = true ∧ okN c1 = true ∧ okN b1 = true ∧ okN e = true := by
  unfold isV1 at h
  split at h
  · simp only [Bool.and_eq_true] at h
    obtain ⟨⟨⟨⟨⟨⟨⟨⟨⟨⟨⟨⟨⟨⟨⟨⟨v1, v2⟩, v3⟩, v4⟩, v5⟩, v6⟩, v7⟩, v8⟩, w1⟩, w2⟩, w3⟩, w4⟩, w5⟩, o1⟩, o2⟩, o3⟩, o4⟩ := h
    obtain rfl := eq_of_beq v1
    obtain rfl := eq_of_beq v2
    obtain rfl := eq_of_beq v3
    obtain rfl := eq_of_beq v4
    obtain rfl := eq_of_beq v5
    obtain rfl := eq_of_beq v6
    obtain rfl := eq_of_beq v7
    obtain rfl := eq_of_beq v8
    exact ⟨_, _, _, _, _, _, _, _, _, _, _, _, _, _, _, _, _, _, _, _, _, _, _, _, _, _, _, _, _, _, rfl, rfl, rfl, w1, w2, w3, w4, w5, o1, o2, o3, o4⟩
  · cases h
theorem isV2_inv {sc : Scope} {N ps : List Str} {body : List Stmt} (h : isV2 sc N ps body = true) : ∃ a e q9 q10 q11 q12 q14 q15 q16 q17 k5 q20 q21,
    body = [.Try [.Expr (.Call (.Name a q9) [] [] q10) q11] [.ExceptHandler (some (.Name "RungError" q12)) (some e) [.Return (some (.Name e q14)) q15] q16] [] [] q17, .Return (some (.Constant .none k5 q20)) q21] ∧
    ps = [a] ∧ N = [a, e] ∧ isLoc1 sc a = true ∧ isLoc1 sc e = true ∧ isGl sc "RungError" = true ∧ okN a = true ∧ okN e = true := by
  unfold isV2 at h
  split at h
  · simp only [Bool.and_eq_true] at h
    obtain ⟨⟨⟨⟨⟨⟨⟨⟨v1, v2⟩, v7⟩, v8⟩, w1⟩, w4⟩, w5⟩, o1⟩, o4⟩ := h
    obtain rfl := eq_of_beq v1
    obtain rfl := eq_of_beq v2
    obtain rfl := eq_of_beq v7
    obtain rfl := eq_of_beq v8
    exact ⟨_, _, _, _, _, _, _, _, _, _, _, _, _, rfl, rfl, rfl, w1, w4, w5, o1, o4⟩
  · cases h
theorem ocOf_d (o : Oc) : ocOf o.d = some o := by cases o <;> rfl
section
variable {P : Program} {w : World} {K : PySem.W.Frag} {mg : Str → Option Value} {base : Heap} {prog : Nat → Option FD} {W k : Nat}
theorem cret_ev {f : Nat} {d : FD} {b : Bool} {o : Oc} {ds : List D} {st st' : Sto} {r : RV} (hd : prog f = some d) (hb : d.body = .cons (.cret 0 b) .nil) (hp : d.par = 1) (hl : d.lam = .nil) (h : evF prog W (k + 1) f (o.d :: ds) st = some (r, st')) :
    ds = [] ∧ st' = st ∧ r = .v (if b then o.ct else .tuple [o.ct, o.bk]) := by
  simp only [evF, hd, hb, hp, hl, finL] at h
  split at h
  · rename_i hlen
    have hn : ds = [] := by simpa using hlen
    subst hn
    have e0 : (initE d.slots [o.d])[0]? = some (some (.v o.d)) := rfl
    simp only [evSs, evS, e0, ocOf_d, if_true] at h
    cases h
    exact ⟨rfl, rfl, rfl⟩
  · cases h
/-- what a def that catches stands on -/
structure CatchAt (K : PySem.W.Frag) (mg : Str → Option Value) (er : List Str) : Prop where
  rung : mg ("RungError" : Str) = some (.ref (He.ga K "RungError"))
  exm : ∀ c ∈ er, PySem.W.exmOne K (.ref (He.ga K c)) (.ref (He.ga K "RungError")) = some true
theorem fnC_v1 {x qual : Str} {params : Arguments} {body : List Stmt} {scope : Scope} {a : Addr} {fd : FuncData} {N ps : List Str} {f : Nat} {d : FD} (T : CatchAt K mg Zc.er) (F1 : FunD K x qual params body scope [] [] a fd) (S : FnScope N ps scope) (hv : isV1 scope N ps body = true)
    (hd : prog f = some d) (hb : d.body = .cons (.cret 0 false) .nil) (hp : d.par = 1) (hl : d.lam = .nil) : FnC P w K mg base 1 (k + 1) a fd ps (evF prog W (k + 1) f) := by
  obtain ⟨oc, od, dV, kV, doc, pm, an, cdv, ct, osl, e, lk, hcd, _, _⟩ := F1.ex
  subst e
  refine ⟨fun A outer s H args fa us vs Q j cs Av o ds st r st' hr hg e0 hbd rv hj CP hlen ok cl rs he q => ?_⟩
  obtain ⟨rfl, rfl, rfl⟩ := cret_ev hd hb hp hl he
  have hvs : vs = [] := by cases rs; rfl
  subst hvs
  obtain ⟨a1, c3, b3, e2, q1, q2, k1, q3, k2, q4, k3, q5, k4, q6, q7, q8, q9, q10, q11, q12, q13, q14, q15, q16, q17, q18, q19, k5, q20, q21, rfl, rfl, rfl, w1, w2, w3, w4, w5, o1, o2, o3, o4⟩ := isV1_inv hv
  have l1 := isLoc1_of w1
  have l2 := isLoc1_of w2
  have l3 := isLoc1_of w3
  have l4 := isLoc1_of w4
  refine LamX.run_ofS (CX := CX0) (E := E0) (vs := [.ref fa]) (us := .ref fa :: us) lk hcd S hr e0 hbd (.cons rfl rv) rfl fun hr' => ?_
  let X := cxOf CX0 P w K mg base [a1, c3, b3, e2] qual scope a cdv A outer s H E0
  have nd : X.nox.N.Nodup := S.nd
  have hgl : Gl X.nox "RungError" := isGl_of (X := X.nox) w5
  have P1 : PS X.nox (.Assign [.Tuple [.Name c3 q1, .Name b3 q2] k1 q3] (.Tuple [.Constant .none k2 q4, .Constant .none k3 q5] k4 q6) q7) _ :=
    ps_asg (pe_tupD (pa_cons pe_non (pa_cons pe_non pa_nil))) (pg_tup rfl (pgs_cons (pg_name (i := 1) nd rfl (.inl l2) (.inr l2)) (pgs_cons (pg_name (i := 2) nd rfl (.inl l3) (.inr l3)) pgs_nil))) (sw_tp _ _) (swS_tp (by rfl) _) rfl
  have P2 : PS X.nox (.Try [.Assign [.Name b3 q8] (.Call (.Name a1 q9) [] [] q10) q11] [.ExceptHandler (some (.Name "RungError" q12)) (some e2) [.Assign [.Name c3 q13] (.Name e2 q14) q15] q16] [] [] q17) _ :=
    ps_try_keep (X := X.nox) (i := 3) (c := .ref (He.ga K "RungError")) (tb := fun Wx => tAsg (tLook K Av H 0 fa o Wx) (gName 2)) (ts := fun _ => tAsg (tVar 3) (gName 1)) rfl rfl rfl nd rfl l4 ⟨hgl, by decide, .inl T.rung⟩
      (fun Wx pn xe tk => pss_one (ps_set (i := 2) nd rfl (.inl l3) (pe_look (X := X.nox) (j := j) (i := 0) CP rfl (hr'.mono (by omega)) hg tk rfl (.inl l1) o1) rfl (.inr l3)))
      (fun ax pn => pss_one (ps_set (i := 1) nd rfl (.inl l2) (pe_var (i := 3) rfl (.inl l4) (okN_of o4).1 (okN_of o4).2.1) rfl (.inr l2)))
  have P3 : PS X.nox (.Return (some (.Tuple [.Name c3 q18, .Name b3 q19] k5 q20)) q21) _ :=
    ps_ret (pe_tupD (pa_cons (pe_var (i := 1) rfl (.inl l2) (okN_of o2).1 (okN_of o2).2.1) (pa_cons (pe_var (i := 2) rfl (.inl l3) (okN_of o3).1 (okN_of o3).2.1) pa_nil)))
  refine ⟨_, PSs.nox (pss_cons P1 (pss_cons P2 (pss_one P3))), ?_⟩
  have okn := ok.nc
  have fin : ∀ {σ : L2.St} {H2 : Hp} {v1 v2 : V}, σ[1]? = some (some v1) → σ[2]? = some (some v2) → Ext [] H H2 → Rp K [] Av H2 v1 o.ct → Rp K [] Av H2 v2 o.bk →
      tRet (tTupD (tCons (tVar 1) (tCons (tVar 2) tNil))) { nx := fun _ H' => Q .non H', rt := Q } σ H2 := fun {σ H2 v1 v2} g1 g2 x2 r1 r2 => by
    refine ⟨v1, g1, v2, g2, by show 2 ≤ sizeLine; rw [sizeLine_eq]; omega, fun p o' ho hp => ?_⟩
    have cl2 := cl.ext ok x2
    have ok2 := ok.ext x2.all cl2
    have z : Ext [] H2 (upd H2 p (.frz o' (.tup [v1, v2]))) := Ext.upd hp
    have r1' : Rp K cs Av H2 v1 o.ct := r1.nc
    have r2' : Rp K cs Av H2 v2 o.bk := r2.nc
    exact q _ _ (x2.trans z).all (cl2.ext ok2 z) (.vv (.tup (SqD.new ho) (.cons (r1'.ext ok2 z.all) (.cons (r2'.ext ok2 z.all) .nil))))
  refine ⟨by show 2 ≤ sizeLine; rw [sizeLine_eq]; omega, fun p o' ho hp => ⟨p, [.non, .non], rfl, (SqD.new ho).t, rfl, .non, [.non], rfl, .non, [], rfl, rfl, ?_⟩⟩
  have x1 : Ext [] H (upd H p (.frz o' (.tup [.non, .non]))) := Ext.upd hp
  refine ⟨rfl, ok.nc.ext x1 (Cl.nil (K := K)), x1, ?_⟩
  cases o with
  | val d => exact fun v H2 x2 r2 => fin (v1 := .non) (v2 := v) rfl rfl (x1.trans x2) .non r2
  | exc c d =>
    refine fun dd v H2 x2 hc hdd r2 => ⟨T.exm c hc, fun ax o1 na h1 h2 h3 => ⟨.ref ax, rfl, fun na' => ?_⟩⟩
    have x3 : Ext [] H2 (upd H2 ax (.frz o1 anyH)) := Ext.upd na'
    have ok2 : AvOk [] Av H2 := ok.nc.ext (x1.trans x2) (Cl.nil (K := K))
    have nd2 : dd ≠ ax := ne_of_none hdd na'
    exact fin (v1 := .ref ax) (v2 := .non) rfl rfl ((x1.trans x2).trans x3) (exc_rp hc upd_same h1 h2 h3 (by rw [upd_ne nd2]; exact hdd) (r2.ext ok2 x3)) .non
theorem fnC_v2 {x qual : Str} {params : Arguments} {body : List Stmt} {scope : Scope} {a : Addr} {fd : FuncData} {N ps : List Str} {f : Nat} {d : FD} (T : CatchAt K mg Zc.er) (F1 : FunD K x qual params body scope [] [] a fd) (S : FnScope N ps scope) (hv : isV2 scope N ps body = true)
    (hd : prog f = some d) (hb : d.body = .cons (.cret 0 true) .nil) (hp : d.par = 1) (hl : d.lam = .nil) : FnC P w K mg base 1 (k + 1) a fd ps (evF prog W (k + 1) f) := by
  obtain ⟨oc, od, dV, kV, doc, pm, an, cdv, ct, osl, e, lk, hcd, _, _⟩ := F1.ex
  subst e
  refine ⟨fun A outer s H args fa us vs Q j cs Av o ds st r st' hr hg e0 hbd rv hj CP hlen ok cl rs he q => ?_⟩
  obtain ⟨rfl, rfl, rfl⟩ := cret_ev hd hb hp hl he
  have hvs : vs = [] := by cases rs; rfl
  subst hvs
  obtain ⟨a1, e2, q9, q10, q11, q12, q14, q15, q16, q17, k5, q20, q21, rfl, rfl, rfl, w1, w4, w5, o1, o4⟩ := isV2_inv hv
  have l1 := isLoc1_of w1
  have l4 := isLoc1_of w4
  refine LamX.run_ofS (CX := CX0) (E := E0) (vs := [.ref fa]) (us := .ref fa :: us) lk hcd S hr e0 hbd (.cons rfl rv) rfl fun hr' => ?_
  let X := cxOf CX0 P w K mg base [a1, e2] qual scope a cdv A outer s H E0
  have nd : X.nox.N.Nodup := S.nd
  have hgl : Gl X.nox "RungError" := isGl_of (X := X.nox) w5
  have P2 : PS X.nox (.Try [.Expr (.Call (.Name a1 q9) [] [] q10) q11] [.ExceptHandler (some (.Name "RungError" q12)) (some e2) [.Return (some (.Name e2 q14)) q15] q16] [] [] q17) _ :=
    ps_try_keep (X := X.nox) (i := 1) (c := .ref (He.ga K "RungError")) (tb := fun Wx => tDrop (tLook K Av H 0 fa o Wx)) (ts := fun _ => tRet (tVar 1)) rfl rfl rfl nd rfl l4 ⟨hgl, by decide, .inl T.rung⟩
      (fun Wx pn xe tk => pss_one (ps_expr (pe_look (X := X.nox) (j := j) (i := 0) CP rfl (hr'.mono (by omega)) hg tk rfl (.inl l1) o1) rfl))
      (fun ax pn => pss_one (ps_ret (pe_var (i := 1) rfl (.inl l4) (okN_of o4).1 (okN_of o4).2.1)))
  refine ⟨_, PSs.nox (pss_cons P2 (pss_one (ps_ret pe_non))), ?_⟩
  refine ⟨rfl, ok.nc, Ext.refl _ _, ?_⟩
  cases o with
  | val d => exact fun v H2 x2 r2 => q _ _ x2.all (cl.ext ok x2) (.vv .non)
  | exc c d =>
    refine fun dd v H2 x2 hc hdd r2 => ⟨T.exm c hc, fun ax o1 na h1 h2 h3 => ⟨.ref ax, rfl, fun na' => ?_⟩⟩
    have x3 : Ext [] H2 (upd H2 ax (.frz o1 anyH)) := Ext.upd na'
    have ok2 : AvOk [] Av H2 := ok.nc.ext x2 (Cl.nil (K := K))
    have nd2 : dd ≠ ax := ne_of_none hdd na'
    exact q _ _ (x2.trans x3).all (cl.ext ok (x2.trans x3)) (.vv (Rp.nc (exc_rp hc upd_same h1 h2 h3 (by rw [upd_ne nd2]; exact hdd) (r2.ext ok2 x3))))

end
end Ev

set_option Elab.async false
set_option linter.all false
set_option maxRecDepth 100000
set_option maxHeartbeats 4000000
/-! Defs, and the law. -/
namespace Ev
variable [Zc]
open PySem PySem.Spec PyProof.Rows L2

/-- an entry into a body -/
theorem SR.start {K : PySem.W.Frag} {cs : List Addr} {Av : Addr → Prop} {H : Hp} {st : Sto} {vs : List V} {ds : List D} {N : List Str} {n : Nat} (ok : AvOk cs Av H) (cl : Cl K cs Av H st) (rs : Rps K cs Av H vs ds) (hn : n = N.length) :
    SR K H Av cs Av H (L2.start N vs) (initE n ds) st := by
  have no : ∀ i a, ¬ OwnAt (L2.start N vs) (initE n ds) i a := fun i a ⟨es, h, _⟩ => by
    unfold initE at h
    by_cases hi : i < (ds.map fun d => some (RV.v d)).length
    · rw [List.getElem?_append_left hi, List.getElem?_map] at h
      cases q : ds[i]? with
      | none => rw [q] at h; cases h
      | some d => rw [q] at h; cases h
    · rw [List.getElem?_append_right (Nat.le_of_not_lt hi), List.getElem?_replicate] at h
      split at h <;> cases h
  refine ⟨ok, cl, ⟨?_, fun i => ?_⟩, Ext.refl _ _, ok.there, fun _ h => h, fun i a h => absurd h (no i a), fun i j a h _ => absurd h (no i a)⟩
  · unfold L2.start initE
    simp [rs.length, hn]
  · unfold L2.start initE
    by_cases hi : i < ds.length
    · rw [List.getElem?_append_left (l₁ := vs.map some) (by rw [List.length_map, rs.length]; exact hi), List.getElem?_append_left (l₁ := ds.map _) (by simpa using hi), List.getElem?_map, List.getElem?_map]
      obtain ⟨v, d, h1, h2, h3⟩ := rs.getLt hi
      rw [h1, h2]
      exact ⟨v, rfl, h3⟩
    · rw [List.getElem?_append_right (l₁ := ds.map _) (by simpa using hi), List.getElem?_replicate]
      split <;> trivial

/-! ### from one frame's closures to another's -/
theorem av_z {T : List (Addr × Str)} {er : List Str} {z z' : Obj → Nat → Addr → Str → Prop} {cs : List Addr} {Av : Addr → Prop} {H : Hp} (ok : @AvOk ⟨T, er, z⟩ cs Av H) : @AvOk ⟨T, er, z'⟩ cs Av H := @AvOk.mk ⟨T, er, z'⟩ cs Av H (@AvOk.sub ⟨T, er, z⟩ _ _ _ ok) (@AvOk.lst ⟨T, er, z⟩ _ _ _ ok) (@AvOk.tab ⟨T, er, z⟩ _ _ _ ok)
theorem ext_z {T : List (Addr × Str)} {er : List Str} {z z' : Obj → Nat → Addr → Str → Prop} {cs : List Addr} {H H' : Hp} (e : @Ext ⟨T, er, z⟩ cs H H') : @Ext ⟨T, er, z'⟩ cs H H' := @Ext.mk ⟨T, er, z'⟩ cs H H' (@Ext.k ⟨T, er, z⟩ _ _ _ e) (@Ext.t ⟨T, er, z⟩ _ _ _ e) (@Ext.tab ⟨T, er, z⟩ _ _ _ e)
theorem Rp.cel {Z2 : Unit → Zc} {K : PySem.W.Frag} {cs : List Addr} {Av : Addr → Prop} {H : Hp} : ∀ {v : V} {d : D}, Rp K cs Av H v d → (cellOf d).isSome = true → @Rp (Z2 ()) K cs Av H v d
  | _, _, .non, p => nomatch p
  | _, _, .bl b, p => nomatch p
  | _, _, .int i, p => nomatch p
  | _, _, .str x, p => nomatch p
  | _, _, .lst na h r, p => nomatch p
  | _, _, .tup h r, p => nomatch p
  | _, _, .cell h, _ => @Rp.cell (Z2 ()) _ _ _ _ _ _ h
  | _, _, @Rp.dct _ _ _ _ _ _ ks _ ds _ h h0 hl r hk, p => by
    subst hk
    match ks, ds, p with
    | [], _, p => cases p
    | _ :: _, [], p => cases p
    | k :: k2 :: ks, d :: d2 :: ds, p => simp [cellOf] at p
    | [k], d :: ds, p => cases k <;> simp [cellOf, kD] at p
    | k :: k2 :: ks, [d], p => cases k <;> simp [cellOf, kD] at p
  | _, _, .dct0 h, p => nomatch p
  | _, _, .exc .., p => nomatch p
  | _, _, .clo .., p => nomatch p
theorem Rp.pcl {Z2 : Unit → Zc} {K : PySem.W.Frag} {cs : List Addr} {Av : Addr → Prop} {H : Hp} {v : V} {d : D} (r : Rp K cs Av H v d) (p : Ev.pcl d = true) : @Rp (Z2 ()) K cs Av H v d := by
  unfold Ev.pcl at p
  rw [Bool.or_eq_true] at p
  exact p.elim (fun q => Rp.pur (Z2 := Z2) r q) fun q => Rp.cel (Z2 := Z2) r q
theorem Rps.pcl {Z2 : Unit → Zc} {K : PySem.W.Frag} {cs : List Addr} {Av : Addr → Prop} {H : Hp} : ∀ {vs : List V} {ds : List D}, Rps K cs Av H vs ds → ds.all Ev.pcl = true → @Rps (Z2 ()) K cs Av H vs ds
  | _, _, .nil, _ => @Rps.nil (Z2 ()) _ _ _ _
  | _, _, .cons r t, p => by
    simp only [List.all_cons, Bool.and_eq_true] at p
    exact @Rps.cons (Z2 ()) _ _ _ _ _ _ _ _ (Rp.pcl (Z2 := Z2) r p.1) (Rps.pcl (Z2 := Z2) t p.2)
theorem Cl.pur {Z2 : Unit → Zc} {K : PySem.W.Frag} {cs : List Addr} {Av : Addr → Prop} {H : Hp} {st : Sto} (c : Cl K cs Av H st) (p : st.all purs = true) : @Cl (Z2 ()) K cs Av H st :=
  @Cl.mk (Z2 ()) K cs Av H st c.len c.nd fun n a ds h1 h2 => by
    obtain ⟨vs, e, r⟩ := c.at_ n a ds h1 h2
    exact ⟨vs, e, Rps.pur (Z2 := Z2) r (List.all_eq_true.mp p _ (List.mem_of_getElem? h2))⟩
theorem RpS.pur {Z2 : Unit → Zc} {K : PySem.W.Frag} {cs : List Addr} {Av : Addr → Prop} {H0 H : Hp} {st : Sto} {v : V} {r : RV} (q : RpS K cs Av H0 H st v r) (p : Ev.pur r.d = true) (ps : st.all purs = true) : @RpS (Z2 ()) K cs Av H0 H st v r := by
  refine ⟨?_, fun a ds e1 e2 => Cl.pur (Z2 := Z2) (q.2 a ds e1 e2) ps⟩
  have r1 := q.1
  cases r with
  | v d => exact Rp.pur (Z2 := Z2) r1 p
  | o ds =>
    obtain ⟨a, us, e1, h0, h1, h2⟩ := r1
    exact ⟨a, us, e1, h0, h1, Rps.pur (Z2 := Z2) h2 p⟩
end Ev

set_option Elab.async false
set_option linter.all false
set_option maxRecDepth 100000
set_option maxHeartbeats 1000000
namespace Ev
open PySem PySem
/-! ### the steps of a program -/
section
variable {prog : Nat → Option FD} {W k : Nat}
theorem b0_div {f n : Nat} (hf : f < B0) : (f + n * B0) / B0 = n := by
  rw [Nat.add_mul_div_right _ _ (by unfold B0; decide), Nat.div_eq_of_lt hf, Nat.zero_add]
theorem evF_b3 {f m : Nat} {ds : List D} {st : Sto} (h : prog f = none) (hq : f / B0 = m + 3) : evF prog W (k + 1) f ds st = evF prog W k (f - B0) ds st := by
  simp only [evF, h, hq]
theorem evF_b2 {f : Nat} {ds : List D} {st : Sto} (h : prog f = none) (hq : f / B0 = 2) : evF prog W (k + 1) f ds st = ocF (evF prog W k (f - 2 * B0) ds []) (evF prog W k (f - B0) ds []) := by
  simp only [evF, h, hq]
theorem evF_b1 {f : Nat} {ds : List D} {st : Sto} {d : FD} (h : prog f = none) (hq : f / B0 = 1) (hd : prog (f - B0) = some d) : evF prog W (k + 1) f ds st = match d.lam with
    | .nil => if ds.length = d.par then match xSs (evF prog W k) W d.body (initE d.slots ds) st with
      | some (c, x, st1) => if st1.length = st.length then some (.v (.tuple [.str c, x]), st1) else none
      | none => none
      else none
    | _ => none := by
  simp only [evF, h, hq, hd]
  all_goals (cases d.lam <;> rfl)
theorem sub_b {f n : Nat} : f + (n + 1) * B0 - B0 = f + n * B0 := by rw [Nat.add_mul, Nat.one_mul, ← Nat.add_assoc, Nat.add_sub_cancel]
theorem le_b {f n : Nat} : B0 ≤ f + (n + 1) * B0 := by rw [Nat.add_mul, Nat.one_mul, ← Nat.add_assoc]; exact Nat.le_add_left _ _
theorem evF_dn {f n : Nat} {ds : List D} {st : Sto} (hb : ∀ f, B0 ≤ f → prog f = none) (hf : f < B0) : evF prog W (k + 1) (f + (n + 3) * B0) ds st = evF prog W k (f + (n + 2) * B0) ds st := by
  rw [evF_b3 (hb _ le_b) (b0_div hf), sub_b]
theorem evF_oc {f : Nat} {ds : List D} {st : Sto} (hb : ∀ f, B0 ≤ f → prog f = none) (hf : f < B0) : evF prog W (k + 1) (f + 2 * B0) ds st = ocF (evF prog W k f ds []) (evF prog W k (f + B0) ds []) := by
  rw [evF_b2 (hb _ (le_b (n := 1))) (b0_div hf), sub_b (n := 1), Nat.add_sub_cancel, Nat.one_mul]
theorem evF_clo {f : Nat} {ds : List D} {st : Sto} {r : RV × Sto} (hb : ∀ f, B0 ≤ f → prog f = none) (hf : f < B0) (h : evF prog W k (f + 5 * B0) ds st = some r) : ∃ m, k = m + 4 ∧ ocF (evF prog W m f ds []) (evF prog W m (f + B0) ds []) = some r := by
  match k, h with
  | 0, h => simp [evF] at h
  | 1, h => rw [evF_dn (n := 2) hb hf] at h; simp [evF] at h
  | 2, h => rw [evF_dn (n := 2) hb hf, evF_dn (n := 1) hb hf] at h; simp [evF] at h
  | 3, h => rw [evF_dn (n := 2) hb hf, evF_dn (n := 1) hb hf, evF_dn (n := 0) hb hf] at h; simp [evF] at h
  | m + 4, h =>
    rw [evF_dn (n := 2) hb hf, evF_dn (n := 1) hb hf, evF_dn (n := 0) hb hf] at h
    exact ⟨m, rfl, by rw [← evF_oc hb hf (st := st)]; exact h⟩
theorem ocF_eq {a b : Option (RV × Sto)} {r : RV × Sto} (h : ocF a b = some r) : (∃ x st, a = some (x, st) ∧ r = (.v (Oc.val x.d).d, [])) ∨ ∃ c d st, a = none ∧ exOf b = some (c, d, st) ∧ r = (.v (Oc.exc c d).d, []) := by
  unfold ocF at h
  split at h
  · cases h; exact .inl ⟨_, _, rfl, rfl⟩
  · split at h
    · rename_i e; cases h; exact .inr ⟨_, _, _, rfl, e, rfl⟩
    · cases h
theorem evF_x {f : Nat} {ds : List D} {st : Sto} {r : RV × Sto} {d : FD} (hb : ∀ f, B0 ≤ f → prog f = none) (hf : f < B0) (hd : prog f = some d) (h : evF prog W (k + 1) (f + B0) ds st = some r) :
    d.lam = .nil ∧ ds.length = d.par ∧ ∃ c x st', xSs (evF prog W k) W d.body (initE d.slots ds) st = some (c, x, st') ∧ st'.length = st.length ∧ r = (.v (.tuple [.str c, x]), st') := by
  have e1 : prog (f + B0) = none := hb _ (Nat.le_add_left _ _)
  have e2 : f + B0 - B0 = f := Nat.add_sub_cancel _ _
  have e3 : (f + B0) / B0 = 1 := by have := b0_div (n := 1) hf; rwa [Nat.one_mul] at this
  rw [evF_b1 e1 e3 (by rw [e2]; exact hd)] at h
  split at h
  · rename_i hl
    split at h
    · rename_i hlen
      split at h
      · rename_i c x st1 e
        split at h
        · rename_i hs
          cases h
          exact ⟨hl, hlen, _, _, _, e, hs, rfl⟩
        · cases h
      · cases h
    · cases h
  · cases h
theorem evF_par {f : Nat} {ds : List D} {st : Sto} {r : RV × Sto} {d : FD} (hd : prog f = some d) : ∀ {k : Nat}, evF prog W k f ds st = some r → ds.length = d.par
  | 0, h => by simp [evF] at h
  | k + 1, h => by
    simp only [evF, hd] at h
    split at h
    · assumption
    · cases h
theorem finL_eq {l : LLs} {ds : List D} {st : Sto} {o : Option (RV × Sto)} {r : RV} {st' : Sto} (h : finL l ds st o = some (r, st')) : o = some (r, st') ∧ (l ≠ .nil → ds.all pcl = true ∧ st.all purs = true ∧ pur r.d = true ∧ st'.all purs = true) := by
  cases l with
  | nil => exact ⟨h, fun z => absurd rfl z⟩
  | cons n f es l =>
    simp only [finL] at h
    split at h
    · rename_i h1
      rw [Bool.and_eq_true] at h1
      split at h
      · rename_i r1 st1
        split at h
        · rename_i h2
          rw [Bool.and_eq_true] at h2
          cases h
          exact ⟨rfl, fun _ => ⟨h1.1, h1.2, h2.1, h2.2⟩⟩
        · cases h
      · cases h
    · cases h
theorem evF_succ {f : Nat} {ds : List D} {st st' : Sto} {r : RV} {d : FD} (hd : prog f = some d) (h : evF prog W (k + 1) f ds st = some (r, st')) :
    (d.lam ≠ .nil → ds.all pcl = true ∧ st.all purs = true ∧ pur r.d = true ∧ st'.all purs = true) ∧ st'.length = st.length ∧ ∃ fl, evSs (evF prog W k) W d.body (initE d.slots ds) st = some fl ∧ ((∃ ρ, fl = .nx ρ st' ∧ r = .v .none) ∨ fl = .rt r st') := by
  simp only [evF, hd] at h
  split at h
  · obtain ⟨h, hfin⟩ := finL_eq h
    refine ⟨hfin, ?_⟩
    split at h
    · rename_i ρ st1 e
      split at h
      · rename_i hl
        cases h
        exact ⟨hl, _, e, .inl ⟨ρ, rfl, rfl⟩⟩
      · cases h
    · rename_i r1 st1 e
      split at h
      · rename_i hl
        cases h
        exact ⟨hl, _, e, .inr rfl⟩
      · cases h
    · cases h
  · cases h
end
end Ev

set_option Elab.async false
set_option linter.all false
set_option maxRecDepth 100000
set_option maxHeartbeats 1000000
namespace Ev
variable [Zc]
open PySem PySem.Spec PyProof.Rows L2
/-- where the table of a def's code object lies -/
def TbAt (T : List (Addr × Str)) (base : Heap) (mg : Str → Option Value) (y : Str) (fd : FuncData) : Prop := ∃ c Pt, fd.code = .ref c ∧ LamX.TabB base mg c Pt ∧ (Pt, y ++ ".<locals>." ++ "<lambda>") ∈ T ∧ ∀ p ∈ T, p.1 = Pt → p.2 = y ++ ".<locals>." ++ "<lambda>"
/-- the defs of a program, as they stand -/
structure Bs (T : List (Addr × Str)) (er : List Str) (P : Program) (w : World) (K : PySem.W.Frag) (mg : Str → Option Value) (base : Heap) (G : Ga) (prog : Nat → Option FD) : Prop where
  blt : ∀ x ∈ bltNames, mg x = none
  cn : ∀ x d, G.cn.lookup x = some d → ∃ u v, mg x = some u ∧ RelV v u ∧ ∀ z cs Av H, @Rp ⟨T, er, z⟩ K cs Av H v d
  big : ∀ f, B0 ≤ f → prog f = none
  ge : G.er = er
  ers : Ers P K mg G.er
  fn : ∀ f x, G.fn.lookup f = some x → ∃ (y : Str) (d : FD) (N ps : List Str) (params : Arguments) (body : List Stmt) (scope : Scope) (a : Addr) (fd : FuncData), prog f = some d ∧ mg x = some (.ref a) ∧
    FunD K y y params body scope [] [] a fd ∧ FnScope N ps scope ∧ chkSs { G with N := N, lam := d.lam } scope d.body body = true ∧ d.slots = N.length ∧ d.par = ps.length ∧ Binds K fd ps [] ∧ (d.lam ≠ .nil → TbAt T base mg y fd) ∧
    ∀ ks perm, (f, ks, perm) ∈ G.kb → perm.length = ps.length ∧ ∀ ws : List Value, ws.length = ks.length → bindArgs fd ⟨[], ks.zip ws⟩ = pure (ps.zip (perm.map fun i => ws.getD i .none))
  fc : ∀ f x, G.fc.lookup f = some x → CatchAt K mg er ∧ ∃ (y : Str) (d : FD) (N ps : List Str) (params : Arguments) (body : List Stmt) (scope : Scope) (a : Addr) (fd : FuncData) (v : Bool), prog f = some d ∧ mg x = some (.ref a) ∧
    FunD K y y params body scope [] [] a fd ∧ FnScope N ps scope ∧ (if v then isV2 else isV1) scope N ps body = true ∧ d.body = .cons (.cret 0 v) .nil ∧ d.par = 1 ∧ d.lam = .nil ∧ ps.length = 1 ∧ Binds K fd ps []
  fd : G.fd = []
theorem Bs.lt {T : List (Addr × Str)} {er : List Str} {P : Program} {w : World} {K : PySem.W.Frag} {mg : Str → Option Value} {base : Heap} {G : Ga} {prog : Nat → Option FD} (b : Bs T er P w K mg base G prog) {f : Nat} {d : FD} (h : prog f = some d) : f < B0 := by
  apply Classical.byContradiction
  intro q
  rw [b.big f (Nat.le_of_not_lt q)] at h
  cases h
section
variable {P : Program} {w : World} {K : PySem.W.Frag} {mg : Str → Option Value} {base : Heap} {G : Ga} {prog : Nat → Option FD} {W k : Nat}
/-- a body keeps its def's promise -/
theorem body_ok {Gx : Ga} {F : FT} {d : FD} {body : List Stmt} {X : Cx} (c : Cq Gx F k X) (hk : chkSs Gx X.env.scope d.body body = true) {vs : List V} {ds : List D} {H : Hp} {Q : VK} {cs : List Addr} {Av : Addr → Prop} {st st' : Sto} {r : RV} {fl : Fl}
    (hs : d.slots = X.N.length) (ok : AvOk cs Av H) (cl : Cl X.K cs Av H st) (rs : Rps X.K cs Av H vs ds) (hl : st'.length = st.length) (e : evSs F W d.body (initE d.slots ds) st = some fl) (hfl : (∃ ρ, fl = .nx ρ st' ∧ r = .v .none) ∨ fl = .rt r st')
    (q : ∀ v H', Ext cs H H' → Cl X.K cs Av H' st' → RpS X.K cs Av H H' st' v r → Q v H') : ∃ t, PSs X body t ∧ t { nx := fun _ H' => Q .non H', rt := Q } (L2.start X.N vs) H := by
  refine ⟨tSs X.K F W d.body, (sSs _ _ _ W d.body).s c hk, H, Av, cs, Av, _, st, fl, SR.start ok cl rs hs, e, ?_⟩
  have same : ∀ {cs' : List Addr} {Av' : Addr → Prop} {H' : Hp}, Stp cs Av H cs' Av' H' → Cl X.K cs' Av' H' st' → cs' = cs := fun {cs' Av' H'} sp c' => by
    obtain ⟨e, rfl⟩ := sp.pre
    have h1 := c'.len
    have h2 := cl.len
    simp only [List.length_append] at h1
    have : e = [] := List.eq_nil_of_length_eq_zero (by omega)
    rw [this, List.append_nil]
  rcases hfl with ⟨ρ, rfl, rfl⟩ | rfl
  · intro cs' Av' H' σ' sp s
    have e := same sp s.cl
    subst e
    exact q .non H' s.ex (s.cl.av fun a h => .inl (s.sub a h)) (.vv .non)
  · intro cs' Av' H' v sp c' ex sub rp
    have e := same sp c'
    subst e
    refine q v H' ex (c'.av fun a h => .inl (sub a h)) ⟨?_, fun a es e1 e2 => (rp.2 a es e1 e2).av fun b h => .inl (h.imp (sub b) id)⟩
    have r1 := rp.1
    cases r with
    | v d => exact Rp.av (fun a h => .inl (sub a h)) r1
    | o es =>
      obtain ⟨a, us, e1, h0, h1, h2⟩ := r1
      exact ⟨a, us, e1, h0, h1, h2.av fun b h => .inl (h.imp (sub b) id)⟩
/-- .. that raises -/
theorem body_x {Gx : Ga} {F : FT} {d : FD} {body : List Stmt} {X : Cx} {E : XK} (c : Cy Gx F k X (fun cls d _ H => E cls d H)) (hk : chkSs Gx X.env.scope d.body body = true) {vs : List V} {ds : List D} {H : Hp} {Q : VK} {cs : List Addr} {Av : Addr → Prop} {st st' : Sto} {cc : Str} {x : D}
    (hs : d.slots = X.N.length) (ok : AvOk cs Av H) (cl : Cl X.K cs Av H st) (rs : Rps X.K cs Av H vs ds) (hl : st'.length = st.length) (e : xSs F W d.body (initE d.slots ds) st = some (cc, x, st'))
    (q : ∀ dd v H', Ext cs H H' → Cl X.K cs Av H' st' → cc ∈ Zc.er → H' dd = some (.xd [("value", v)]) → Rp X.K cs Av H' v x → E (.ref (He.ga X.K cc)) (some dd) H') : ∃ t, PSs X body t ∧ t { nx := fun _ H' => Q .non H', rt := Q } (L2.start X.N vs) H := by
  refine ⟨tXs X.K F W d.body (fun cls d _ H => E cls d H), (xSsok _ _ _ W d.body).x c hk, H, Av, cs, Av, _, st, cc, x, st', SR.start ok cl rs hs, e, ?_⟩
  intro cs' Av' H' σ' dd v sp c' ex sub hc hdd rp
  obtain ⟨e', rfl⟩ := sp.pre
  have h1 := c'.len
  have h2 := cl.len
  simp only [List.length_append] at h1
  have : e' = [] := List.eq_nil_of_length_eq_zero (by omega)
  subst this
  rw [List.append_nil] at c' ex rp
  exact q dd v H' ex (c'.av fun a h => .inl (sub a h)) hc hdd (Rp.av (fun a h => .inl (sub a h)) rp)
theorem GdX.as {Gx : Ga} {F : FT} (g : GdX P w K mg base G F k) (h1 : Gx.fn = G.fn) (h2 : Gx.cn = G.cn) (h3 : Gx.kb = G.kb) (h4 : Gx.er = G.er) (h5 : Gx.fc = G.fc) (h6 : Gx.fd = G.fd) : GdX P w K mg base Gx F k := by
  obtain ⟨N, fn, cn, kb, er, fc, fd, lam⟩ := Gx
  cases h1; cases h2; cases h3; cases h4; cases h5; cases h6
  exact ⟨⟨g.g.blt, g.g.cn, g.g.fn⟩, g.eq, g.er, g.fx, g.cl, g.fc, g.fd, g.kk⟩
theorem cq_of {Gx : Ga} {ps : List Str} {qual : Str} {scope : Scope} {f : Addr} {cdv : Value} {A : Around} {outer : List Env} {s : Shared} {H : Hp} {E : XK} {F : FT} (g : GdX P w K mg base Gx F k) (S : FnScope Gx.N ps scope)
    (hr : Room k (A.deeper (envOfC qual scope s.heap.objs.size f cdv))) (hg : A.guards = some []) (hl : Gx.lam ≠ .nil → LmOk Gx (cxOf CX0 P w K mg base Gx.N qual scope f cdv A outer s H E).nox) :
    Cq Gx F k (cxOf CX0 P w K mg base Gx.N qual scope f cdv A outer s H E).nox :=
  ⟨⟨rfl, rfl, hg, hr, S.nd, g, hl⟩, rfl, fun _ => rfl, S.kind⟩
theorem cy_of {Gx : Ga} {ps : List Str} {qual : Str} {scope : Scope} {f : Addr} {cdv : Value} {A : Around} {outer : List Env} {s : Shared} {H : Hp} {E : XK} {F : FT} (g : GdX P w K mg base Gx F k) (S : FnScope Gx.N ps scope)
    (hr : Room k (A.deeper (envOfC qual scope s.heap.objs.size f cdv))) (hg : A.guards = some []) (hl : Gx.lam = .nil) :
    Cy Gx F k (cxOf (L2.CX P w) P w K mg base Gx.N qual scope f cdv A outer s H E) (fun cls d _ H => E cls d H) :=
  ⟨⟨rfl, rfl, hg, hr, S.nd, g, fun z => absurd hl z⟩, fun _ => rfl, S.kind, takes_of (E := E) rfl rfl rfl rfl, passes_of (K := fun e s'' => L2.CX P w outer H s E e s'') rfl⟩
end
end Ev

set_option Elab.async false
set_option linter.all false
set_option maxRecDepth 100000
set_option maxHeartbeats 1000000
namespace Ev
open PySem PySem.Spec PyProof.Rows L2

section
variable {T : List (Addr × Str)} {er : List Str} {P : Program} {w : World} {K : PySem.W.Frag} {mg : Str → Option Value} {base : Heap} {G : Ga} {prog : Nat → Option FD} {W k : Nat} {z : Obj → Nat → Addr → Str → Prop}
theorem ent_G (b : Bs T er P w K mg base G prog) (ih : ∀ j, j < k → ∀ z, @GdX ⟨T, er, z⟩ P w K mg base G (evF prog W j) j) {f : Nat} {y : Str} {d : FD} {N ps : List Str} {params : Arguments} {body : List Stmt} {scope : Scope} {a : Addr} {fd : FuncData}
    (h1 : prog f = some d) (h3 : FunD K y y params body scope [] [] a fd) (h4 : FnScope N ps scope) (h5 : chkSs { G with N := N, lam := d.lam } scope d.body body = true) (h6 : d.slots = N.length) (ht : d.lam ≠ .nil → TbAt T base mg y fd) :
    FnG P w K mg base k a fd ps (@spF ⟨T, er, z⟩ K (evF prog W k f) ps.length) := by
  match k, ih with
  | 0, _ =>
    refine ⟨fun vs H Q E h => h.1, fun A outer s H args us vs Q E _ _ _ _ _ h => ?_⟩
    obtain ⟨_, cs, Av, ds, st, r, st', _, _, _, he, _⟩ := h
    simp [evF] at he
  | k + 1, ih =>
    obtain ⟨oc, od, dV, kV, doc, pm, an, cdv, ct, osl, e, lk, hcd, _, _⟩ := h3.ex
    letI : Zc := ⟨T, er, z⟩
    refine fnG_of ⟨y, dV, kV, doc, pm, an, ct, e⟩ lk hcd h4 (fun vs H Q E h => h.1) fun A outer s H vs Q E hr hg h => ?_
    obtain ⟨hlen, cs, Av, ds, st, r, st', ok, cl, rs, he, q⟩ := h
    obtain ⟨hfin, hl, fl, e1, hfl⟩ := evF_succ h1 he
    by_cases hlam : d.lam = .nil
    · letI : Zc := ⟨T, er, z⟩
      have g := GdX.as (Gx := { G with N := N, lam := d.lam }) (ih k (by omega) z) rfl rfl rfl rfl rfl rfl
      have c := cq_of (qual := y) (f := a) (cdv := cdv) (outer := outer) (H := H) (E := E) g h4 hr hg fun z => absurd hlam z
      obtain ⟨t, p, q⟩ := body_ok c h5 h6 ok cl rs hl e1 hfl q
      exact ⟨t, p.nox, q⟩
    · obtain ⟨p1, p2, p3, p4⟩ := hfin hlam
      obtain ⟨c0, Pt, hc, TB, hm, hu⟩ := ht hlam
      have hcd2 : cdv = .ref c0 := by rw [e] at hc; exact hc
      let z2 := LamZ { G with N := N, lam := d.lam } (cxOf CX0 P w K mg base N y scope a cdv A outer s H E).nox.env
      letI : Zc := ⟨T, er, z2⟩
      have g := GdX.as (Gx := { G with N := N, lam := d.lam }) (ih k (by omega) z2) rfl rfl rfl rfl rfl rfl
      have c := cq_of (qual := y) (f := a) (cdv := cdv) (outer := outer) (H := H) (E := E) g h4 hr hg fun _ => ⟨⟨c0, Pt, hcd2, TB, hm, hu⟩, fun _ _ _ _ => Iff.rfl, rfl⟩
      obtain ⟨t, p, q⟩ := body_ok c h5 h6 (av_z ok) (@Cl.pur ⟨T, er, z⟩ (fun _ => ⟨T, er, z2⟩) _ _ _ _ _ cl p2) (@Rps.pcl ⟨T, er, z⟩ (fun _ => ⟨T, er, z2⟩) _ _ _ _ _ _ rs p1) hl e1 hfl
        fun v H' x c r => q v H' (ext_z x) (@Cl.pur ⟨T, er, z2⟩ (fun _ => ⟨T, er, z⟩) _ _ _ _ _ c p4) (@RpS.pur ⟨T, er, z2⟩ (fun _ => ⟨T, er, z⟩) _ _ _ _ _ _ _ _ r p3 p4)
      exact ⟨t, p.nox, q⟩
theorem ent_X (b : Bs T er P w K mg base G prog) (ih : ∀ j, j < k → ∀ z, @GdX ⟨T, er, z⟩ P w K mg base G (evF prog W j) j) {f : Nat} {y : Str} {d : FD} {N ps : List Str} {params : Arguments} {body : List Stmt} {scope : Scope} {a : Addr} {fd : FuncData}
    (h1 : prog f = some d) (h3 : FunD K y y params body scope [] [] a fd) (h4 : FnScope N ps scope) (h5 : chkSs { G with N := N, lam := d.lam } scope d.body body = true) (h6 : d.slots = N.length) :
    FnX P w K mg base k a fd ps (@spX ⟨T, er, z⟩ K (evF prog W k (f + B0)) ps.length) := by
  match k, ih with
  | 0, _ =>
    refine ⟨fun vs H Q E h => h.1, fun A outer s H args us vs Q E _ _ _ _ _ h => ?_⟩
    obtain ⟨_, cs, Av, ds, st, c, x, st', _, _, _, he, _⟩ := h
    simp [evF, exOf] at he
  | k + 1, ih =>
    obtain ⟨oc, od, dV, kV, doc, pm, an, cdv, ct, osl, e, lk, hcd, _, _⟩ := h3.ex
    letI : Zc := ⟨T, er, z⟩
    refine fnX_of ⟨y, dV, kV, doc, pm, an, ct, e⟩ lk hcd h4 (fun vs H Q E h => h.1) fun A outer s H vs Q E hr hg h => ?_
    obtain ⟨hlen, cs, Av, ds, st, cc, x, st', ok, cl, rs, he, q⟩ := h
    obtain ⟨hlam, _, c1, x1, st1, e1, hl, e2⟩ := evF_x b.big (b.lt h1) h1 (exOf_eq he)
    cases e2
    letI : Zc := ⟨T, er, z⟩
    have g := GdX.as (Gx := { G with N := N, lam := d.lam }) (ih k (by omega) z) rfl rfl rfl rfl rfl rfl
    have c := cy_of (qual := y) (f := a) (cdv := cdv) (outer := outer) (H := H) (E := E) g h4 hr hg hlam
    exact body_x c h5 h6 ok cl rs hl e1 q
theorem ent_O (b : Bs T er P w K mg base G prog) {f : Nat} {d : FD} (h1 : prog f = some d) {a : Addr} {fd : FuncData} {ps : List Str} (FG : FnG P w K mg base (k - 4) a fd ps (@spF ⟨T, er, z⟩ K (evF prog W (k - 4) f) ps.length)) (FX : FnX P w K mg base (k - 4) a fd ps (@spX ⟨T, er, z⟩ K (evF prog W (k - 4) (f + B0)) ps.length)) :
    FnX P w K mg base (k - 4) a fd ps (@spO ⟨T, er, z⟩ K (evF prog W k (f + 5 * B0)) ps.length) := by
  letI : Zc := ⟨T, er, z⟩
  refine ⟨fun vs H Q E h => h.1, fun A outer s H args us vs Q E hr hg e0 hb rv ⟨hlen, Av, ds, o, st', ok, rs, he, hoc⟩ => ?_⟩
  obtain ⟨m, hm, h⟩ := evF_clo b.big (b.lt h1) he
  obtain rfl : m = k - 4 := by omega
  rcases ocF_eq h with ⟨x, st1, ea, eb⟩ | ⟨c, x, st1, _, ea, eb⟩
  · have eo : o.d = (Oc.val x.d).d := by simpa using congrArg (fun z : RV × Sto => z.1) eb
    obtain rfl : o = .val x.d := by have := congrArg ocOf eo; rwa [ocOf_d, ocOf_d, Option.some.injEq] at this
    exact FG.x hr hg e0 hb rv ⟨hlen, [], Av, ds, [], x, st1, ok, Cl.nil, rs, ea, fun v H' ex cl r => hoc v H' ex (r.1.rp ok.there)⟩
  · have eo : o.d = (Oc.exc c x).d := by simpa using congrArg (fun z : RV × Sto => z.1) eb
    obtain rfl : o = .exc c x := by have := congrArg ocOf eo; rwa [ocOf_d, ocOf_d, Option.some.injEq] at this
    exact FX.run A outer s H args us vs Q E hr hg e0 hb rv ⟨hlen, [], Av, ds, [], c, x, st1, ok, Cl.nil, rs, ea, fun dd v H' ex cl hc hdd r => hoc dd v H' ex hc hdd r⟩
theorem gd_all (b : Bs T er P w K mg base G prog) (W : Nat) (k : Nat) : ∀ z, @GdX ⟨T, er, z⟩ P w K mg base G (evF prog W k) k := by
  induction k using Nat.strongRecOn with
  | _ k ih =>
  intro z
  letI : Zc := ⟨T, er, z⟩
  refine ⟨⟨b.blt, fun x d hx => ?_, fun f x hx => ?_⟩, b.ge, b.ers, fun f x hx => ?_, fun f x hx => ?_, fun f x hx => ?_, fun f x hx => ?_, fun f x ds r hx he => ?_⟩
  · obtain ⟨u, v, h1, h2, h3⟩ := b.cn x d hx
    exact ⟨u, v, h1, h2, h3 z⟩
  · obtain ⟨y, d, N, ps, params, body, scope, a, fd, h1, h2, h3, h4, h5, h6, h7, h8, ht, h9⟩ := b.fn f x hx
    exact ⟨a, fd, ps, h2, h3.kp, ent_G b ih h1 h3 h4 h5 h6 ht, h8, fun ds st r h => by rw [← h7]; exact evF_par h1 h, h9⟩
  · obtain ⟨y, d, N, ps, params, body, scope, a, fd, h1, h2, h3, h4, h5, h6, h7, h8, ht, h9⟩ := b.fn f x hx
    refine ⟨a, fd, ps, h2, h3.kp, ent_X b ih h1 h3 h4 h5 h6, h8, fun ds st r h => ?_, h9⟩
    rw [← h7]
    match k, h with
    | 0, h => simp [evF] at h
    | k + 1, h => exact (evF_x b.big (b.lt h1) h1 h).2.1
  · obtain ⟨y, d, N, ps, params, body, scope, a, fd, h1, h2, h3, h4, h5, h6, h7, h8, ht, h9⟩ := b.fn f x hx
    refine ⟨a, fd, ps, h2, h3.kp, ent_O b h1 (ent_G b (fun j hj => ih j (by omega)) h1 h3 h4 h5 h6 ht) (ent_X b (fun j hj => ih j (by omega)) h1 h3 h4 h5 h6), h8, fun ds st r h => ?_⟩
    rw [← h7]
    obtain ⟨m, hm, h⟩ := evF_clo b.big (b.lt h1) h
    rcases ocF_eq h with ⟨x, st1, ea, _⟩ | ⟨c, x, st1, _, ea, _⟩
    · exact evF_par h1 ea
    · match m, ea with
      | 0, ea => simp [evF, exOf] at ea
      | m + 1, ea => exact (evF_x b.big (b.lt h1) h1 (exOf_eq ea)).2.1
  · obtain ⟨T1, y, d, N, ps, params, body, scope, a, fd, v, h1, h2, h3, h4, h5, h6, h7, h8, h9, h10⟩ := b.fc f x hx
    refine ⟨a, fd, ps, h2, h3.kp, ?_, h10, fun ds st r h => by rw [h9, ← h7]; exact evF_par h1 h⟩
    match k, ih with
    | 0, _ => exact ⟨fun A o s H ar f us vs Q j cs Av oc ds st r st' _ _ _ _ _ _ _ _ _ _ _ e => by simp [evF] at e⟩
    | k + 1, _ =>
      cases v
      · exact fnC_v1 T1 h3 h4 h5 h1 h6 h7 h8
      · exact fnC_v2 T1 h3 h4 h5 h1 h6 h7 h8
  · rw [b.fd] at hx
    cases hx
  · obtain ⟨y, d, N, ps, params, body, scope, a, fd, h1, h2, h3, h4, h5, h6, h7, h8, ht, h9⟩ := b.fn f x hx
    obtain ⟨m, hm, h⟩ := evF_clo b.big (b.lt h1) he
    have h5 : 5 ≤ k := by
      match m, hm, h with
      | 0, _, h => simp [evF, ocF, exOf] at h
      | m + 1, hm, _ => omega
    rcases ocF_eq h with ⟨x, st1, ea, rfl⟩ | ⟨c, x, st1, _, ea, rfl⟩
    · exact ⟨h5, _, rfl⟩
    · exact ⟨h5, _, rfl⟩
/-- what the law's def promises -/
def spLaw (T : List (Addr × Str)) (K : PySem.W.Frag) (prog : Nat → Option FD) (W k : Nat) (d : FD) : Sp := fun vs H Q _ => ∃ (a : Addr) (ns : List Int) (st' : Sto), vs = [.ref a] ∧ SqL K H a (ns.map V.int) ∧ LamX.Tabs T H ∧
  evSs (evF prog W k) W d.body (initE d.slots [.list (ns.map .int)]) [] = some (.rt (.v (.bool true)) st') ∧ ∀ H', Q (.bl true) H'
theorem ok_law (b : Bs T er P w K mg base G prog) {N : List Str} {x : Str} {params : Arguments} {body : List Stmt} {scope : Scope} {a : Addr} {fd : FuncData} {d : FD} {xs : Str} (F : FunD K x x params body scope [] [] a fd) (S : FnScope N [xs] scope)
    (hk : chkSs { G with N := N, lam := d.lam } scope d.body body = true) (hs : d.slots = N.length) (ht : d.lam ≠ .nil → TbAt T base mg x fd) : FnG P w K mg base (k + 1) a fd [xs] (spLaw T K prog W k d) := by
  obtain ⟨oc, od, dV, kV, doc, pm, an, cdv, ct, osl, e, lk, hcd, _, _⟩ := F.ex
  letI : Zc := ⟨T, er, fun _ _ _ _ => False⟩
  refine fnG_of ⟨x, dV, kV, doc, pm, an, ct, e⟩ lk hcd S (fun vs H Q E ⟨a, ns, st', h, _⟩ => by rw [h]; rfl) fun A outer s H vs Q E hr hg ⟨a', ns, st', hv, hS, hT, he, q⟩ => ?_
  subst hv
  by_cases hlam : d.lam = .nil
  · letI : Zc := ⟨T, er, fun _ _ _ _ => False⟩
    have g := GdX.as (Gx := { G with N := N, lam := d.lam }) (gd_all b W k fun _ _ _ _ => False) rfl rfl rfl rfl rfl rfl
    have c := cq_of (qual := x) (f := a) (cdv := cdv) (outer := outer) (H := H) (E := E) g S hr hg fun z => absurd hlam z
    refine ⟨tSs K (evF prog W k) W d.body, PSs.nox ((sSs _ _ _ W d.body).s c hk), H, fun _ => False, [], fun _ => False, _, [], _, SR.start (ds := [.list (ns.map .int)]) ⟨fun _ h => (by simp at h), fun _ h => h.elim, hT⟩ ⟨rfl, List.nodup_nil, fun n a ds h => by simp at h⟩ (.cons (.lst (.inl fun h => h) hS (Rps.ints ns)) .nil) hs, he, ?_⟩
    intro cs' Av' H' v sp c' ex sub rp
    cases rp.1
    exact q H'
  · obtain ⟨c0, Pt, hc, TB, hm, hu⟩ := ht hlam
    have hcd2 : cdv = .ref c0 := by rw [e] at hc; exact hc
    let z2 := LamZ { G with N := N, lam := d.lam } (cxOf CX0 P w K mg base N x scope a cdv A outer s H E).nox.env
    letI : Zc := ⟨T, er, z2⟩
    have g := GdX.as (Gx := { G with N := N, lam := d.lam }) (gd_all b W k z2) rfl rfl rfl rfl rfl rfl
    have c := cq_of (qual := x) (f := a) (cdv := cdv) (outer := outer) (H := H) (E := E) g S hr hg fun _ => ⟨⟨c0, Pt, hcd2, TB, hm, hu⟩, fun _ _ _ _ => Iff.rfl, rfl⟩
    refine ⟨tSs K (evF prog W k) W d.body, PSs.nox ((sSs _ _ _ W d.body).s c hk), H, fun _ => False, [], fun _ => False, _, [], _, SR.start (ds := [.list (ns.map .int)]) ⟨fun _ h => (by simp at h), fun _ h => h.elim, hT⟩ ⟨rfl, List.nodup_nil, fun n a ds h => by simp at h⟩ (.cons (.lst (.inl fun h => h) hS (Rps.ints ns)) .nil) hs, he, ?_⟩
    intro cs' Av' H' v sp c' ex sub rp
    cases rp.1
    exact q H'
end
end Ev

set_option Elab.async false
set_option linter.all false
set_option maxRecDepth 100000
set_option maxHeartbeats 1000000
/-! The law's call, with the tables of the code objects that make lambdas. -/
namespace Ev
open PySem PySem.Spec PyProof.Rows L2

/-- an abstract heap with (or without) the script in it, and the tables -/
def oneH (a : Addr) : Option HO → Hp
  | none => fun _ => none
  | some u => fun b => if b = a then some u else none
theorem oneH_ne {a b : Addr} {o : Option HO} (h : oneH a o b ≠ none) : b = a := by
  cases o with
  | none => exact absurd rfl h
  | some u =>
    by_cases e : b = a
    · exact e
    · exact absurd (if_neg e) h
def twoH (ts : List Addr) (a : Addr) (o : Option HO) : Hp := fun b => if b ∈ ts then some (.tbl #[]) else oneH a o b
/-- what is known of the tables at the law's call -/
structure TbS (K : PySem.W.Frag) (h : Heap) (cs : List (Addr × Addr)) : Prop where
  at_ : ∀ p ∈ cs, h.get? p.2 = some { cls := .none, data := .fields #[] }
  no : ∀ p ∈ cs, K.lookup p.2 = none
  cd : ∀ p ∈ cs, PySem.W.CodeHd h p.1 p.2
/-- the law's call, from the promise of its def -/
theorem call_law {P : Program} {w : World} {K : PySem.W.Frag} {mg mb : Str → Option Value} {k : Nat} {f a : Addr} {fd : FuncData} {x : Str} {sp : Sp} {s : Shared} {us : List Value} {cs : List (Addr × Addr)} (o : Option HO)
    (kin : K.In s.heap) (gl : s.heap.Ns mainGlobals mg) (bl : s.heap.Ns builtinsNs mb) (bo : ∀ x : Str, x ≠ "__name__" → mb x = bootBuiltins x) (nl : s.heap.NoLimit) (ng : s.gens = #[]) (C : TbS K s.heap cs)
    (hbm : ∃ (bm : Addr) (ob : Obj), mg "__builtins__" = some (.ref bm) ∧ bm ≠ builtinsNs ∧ s.heap.get? bm = some ob ∧ ob.cls = .type "module" ∧ ob.dict = some builtinsNs ∧ ob.data = .plain)
    (at_ : s.heap.get? a = some { cls := .type "list", data := .seq us.toArray }) (room : Room k callerA) (F : ∀ base : Heap, K.In base → base.Ns mainGlobals mg → (∀ p ∈ cs, LamX.TabB base mg p.1 p.2) → FnG P w K mg base k f fd [x] sp)
    (bind : ∀ (s : Shared) (u : Value), BindsTo s fd ⟨[u], []⟩ [(x, u)]) (fz : ∀ u, o = some u → ∃ xs, u = .frz { cls := .type "list", data := .seq us.toArray } (.lst xs)) (hok : HOk P w (twoH (cs.map (·.2)) a o) s.heap) (nk : ∀ u, o = some u → K.lookup a = none)
    (hsp : sp [.ref a] (twoH (cs.map (·.2)) a o) (fun v _ => v = .bl true) fun _ _ _ => False) :
    codeAny (model P w) callerA (.call (.ref f) ⟨[.ref a], []⟩) (fun r t => r = .ok (.ret (.bool true)) ∧ OldK s.heap t.heap ∧ t.os = s.os ∧ AllBare t.gens) s := by
  have isT : ∀ b ∈ cs.map (·.2), s.heap.get? b = some { cls := .none, data := .fields #[] } := fun b hb => by
    obtain ⟨p, hp, e⟩ := List.mem_map.mp hb
    rw [← e]
    exact C.at_ p hp
  have kT : ∀ b ∈ cs.map (·.2), K.lookup b = none := fun b hb => by
    obtain ⟨p, hp, e⟩ := List.mem_map.mp hb
    rw [← e]
    exact C.no p hp
  generalize hts : cs.map (·.2) = ts at hok hsp isT kT
  generalize hH : twoH ts a o = H at hok hsp
  have HT : ∀ b ∈ ts, H b = some (.tbl #[]) := fun b hb => by rw [← hH]; exact if_pos hb
  have aT : a ∉ ts := fun z => by
    have q := isT a z
    rw [at_] at q
    have z' : Data.seq us.toArray _ = Data.fields #[] := congrArg Obj.data (Option.some.inj q)
    cases z'
  have only : ∀ {b : Addr}, H b ≠ none → b ∈ ts ∨ b = a := fun {b} h => by
    by_cases hb : b ∈ ts
    · exact .inl hb
    · refine .inr (oneH_ne (o := o) fun z => h ?_)
      rw [← hH]
      exact (if_neg hb).trans z
  have some_of : ∀ {b : Addr}, b ∉ ts → H b ≠ none → ∃ u, o = some u := fun {b} hb h => by
    cases o with
    | none => exact absurd (by rw [← hH]; exact if_neg hb) h
    | some u => exact ⟨u, rfl⟩
  have noD : ∀ {b : Addr} {ob : Obj}, s.heap.get? b = some ob → (∀ vs n, ob.data ≠ .seq vs n) → ob.data ≠ .fields #[] → H b = none := fun {b ob} e h1 h2 => by
    apply Classical.byContradiction
    intro h
    rcases only h with hb | hb
    · rw [isT b hb] at e
      cases e
      exact h2 rfl
    · rw [hb, at_] at e
      cases e
      exact h1 _ _ rfl
  have dictNo : ∀ {b : Addr} {ob : Obj} {es : Array DictEntry} {ep : Nat}, s.heap.get? b = some ob → ob.data = .dict es ep → H b = none := fun {b ob es ep} e d => noD e (fun vs n z => by rw [d] at z; cases z) fun z => by rw [d] at z; cases z
  have ns : ∀ {b : Addr} {m : Str → Option Value}, s.heap.Ns b m → (hidT s.heap H).Ns b m := fun ⟨ob, es, ep, e, d, r⟩ => ⟨ob, es, ep, hidT_get e (dictNo e d), d, r⟩
  have kin' : K.In (hidT s.heap H) := fun b ob e => hidT_get (kin b ob e) (by
    apply Classical.byContradiction
    intro h
    rcases only h with hb | hb
    · rw [kT b hb] at e
      cases e
    · obtain ⟨u, hu⟩ := some_of (by rw [hb]; exact aT) h
      rw [hb, nk u hu] at e
      cases e)
  obtain ⟨ml, l1, l2⟩ := nl
  have TB : ∀ p ∈ cs, LamX.TabB (hidT s.heap H) mg p.1 p.2 := fun p hp => by
    have hTp := C.at_ p hp
    refine ⟨?_, ?_, fun z => ?_⟩
    · obtain ⟨ob, vs, file, tf, flags, tg, inF, text, tt, e1, r1, r2, r3, r⟩ := C.cd p hp
      refine ⟨ob, vs, file, tf, flags, tg, inF, text, tt, hidT_get e1 (noD e1 (fun vs n z => ?_) fun z => ?_), r1, r2, r3, r⟩
      · rw [r2] at z; cases z
      · rw [r2] at z; cases z; simp at r3
    · obtain ⟨bm, ob, b1, b2, b3, b4, b5, b6⟩ := hbm
      refine ⟨bm, ob, b1, b2, fun q => ?_, fun q => ?_, hidT_get b3 (noD b3 (fun vs n z => ?_) fun z => ?_), b4, b5, b6⟩
      · obtain ⟨o2, es, ep, e, hd, _⟩ := gl
        rw [q, e] at b3
        cases b3
        rw [hd] at b6
        cases b6
      · rw [q, hTp] at b3
        cases b3
        cases b6
      · rw [b6] at z; cases z
      · rw [b6] at z; cases z
    · obtain ⟨o2, es, ep, e, hd, _⟩ := gl
      rw [z, hTp] at e
      cases e
      cases hd
  have env : Env0 P w K mg (hidT s.heap H) callerA [] s H :=
    { frames := rfl
      mod := ⟨kin', ns gl, ⟨mb, ns bl, bo⟩, ⟨ml, ns l1, l2⟩⟩
      bs := fun b ob e => of_hidT e
      bsz := by rw [hidT_size]; exact Nat.le_refl _
      funs := trivial
      frf := fun b hb => by cases hb
      hok := hok
      bare := .of_eq ng }
  have run := (F _ kin' (ns gl) TB).run callerA [] s H ⟨[.ref a], []⟩ [.ref a] [.ref a] _ _ room rfl env (bind s (.ref a)) (.cons rfl .nil) hsp
  refine codeAny_mono run fun r t h => ?_
  match r, h with
  | .ok (.ret u), h =>
    obtain ⟨v, H', hos, hbare, un, hok', rv, rfl⟩ := h
    cases (show u = Value.bool true from rv)
    have keep : ∀ b ob, b ∉ ts → s.heap.get? b = some ob → t.heap.get? b = some ob := fun b ob hb e => by
      by_cases hn : H b = none
      · exact un.keep b ob e hn (fun z => by cases z) (fun z => by cases z)
      · obtain ⟨u, hu⟩ := some_of hb hn
        obtain ⟨xs, rfl⟩ := fz u hu
        obtain rfl := (only hn).resolve_left hb
        have e1 : H b = some (.frz { cls := .type "list", data := .seq us.toArray } (.lst xs)) := by
          rw [← hH, hu]
          unfold twoH oneH
          rw [if_neg hb]
          exact if_pos rfl
        rw [at_] at e
        cases e
        exact (hok' b _ (un.frzs b _ _ e1)).1
    have grown : ∀ b ∈ ts, ∃ more : Array Value, t.heap.get? b = some { cls := .none, data := .fields more } := fun b hb => by
      obtain ⟨more, z⟩ := un.tbls b #[] (HT b hb)
      exact ⟨_, hok' b _ z⟩
    refine ⟨rfl, ⟨fun b ob e => ?_, fun b ob e => ?_⟩, hos, hbare⟩
    · by_cases hb : b ∈ ts
      · obtain ⟨more, hm⟩ := grown b hb
        rw [isT b hb] at e
        cases e
        have hb' := hb
        rw [← hts] at hb'
        obtain ⟨p, hp, ep⟩ := List.mem_map.mp hb'
        subst ep
        exact .inr (.inl ⟨((C.cd p hp).tab (C.at_ p hp)).isCodeTable, rfl, #[], more, rfl, by rw [Array.empty_append]; exact hm⟩)
      · exact .inl (keep b ob hb e)
    · by_cases hb : b ∈ ts
      · obtain ⟨more, hm⟩ := grown b hb
        exact ⟨_, hm⟩
      · exact ⟨ob, keep b ob hb e⟩
theorem law_callG {P : Program} {w : World} {K : PySem.W.Frag} {mg mb : Str → Option Value} {k : Nat} {f a : Addr} {fd : FuncData} {x : Str} {sp : Sp} {s : Shared} {us : List Value} {ns : List Int} {cs : List (Addr × Addr)}
    (kin : K.In s.heap) (gl : s.heap.Ns mainGlobals mg) (bl : s.heap.Ns builtinsNs mb) (bo : ∀ x : Str, x ≠ "__name__" → mb x = bootBuiltins x) (nl : s.heap.NoLimit) (ng : s.gens = #[]) (C : TbS K s.heap cs)
    (hbm : ∃ (bm : Addr) (ob : Obj), mg "__builtins__" = some (.ref bm) ∧ bm ≠ builtinsNs ∧ s.heap.get? bm = some ob ∧ ob.cls = .type "module" ∧ ob.dict = some builtinsNs ∧ ob.data = .plain)
    (at_ : s.heap.get? a = some { cls := .type "list", data := .seq us.toArray }) (ia : IntsAre us ns) (len : ns.length ≤ sizeLine) (room : Room k callerA) (F : ∀ base : Heap, K.In base → base.Ns mainGlobals mg → (∀ p ∈ cs, LamX.TabB base mg p.1 p.2) → FnG P w K mg base k f fd [x] sp)
    (bind : ∀ (s : Shared) (u : Value), BindsTo s fd ⟨[u], []⟩ [(x, u)]) (hsp : ∀ H : Hp, SqL K H a (ns.map V.int) → (∀ p ∈ cs, H p.2 = some (.tbl #[])) → sp [.ref a] H (fun v _ => v = .bl true) fun _ _ _ => False) :
    codeAny (model P w) callerA (.call (.ref f) ⟨[.ref a], []⟩) (fun r t => r = .ok (.ret (.bool true)) ∧ OldK s.heap t.heap ∧ t.os = s.os ∧ AllBare t.gens) s := by
  have rel : Vals (ns.map V.int) us := vals_ints ia
  have aT : a ∉ cs.map (·.2) := fun z => by
    obtain ⟨p, hp, e⟩ := List.mem_map.mp z
    have q := C.at_ p hp
    rw [e, at_] at q
    have z' : Data.seq us.toArray _ = Data.fields #[] := congrArg Obj.data (Option.some.inj q)
    cases z'
  have tT : ∀ o, ∀ p ∈ cs, twoH (cs.map (·.2)) a o p.2 = some (.tbl #[]) := fun o p hp => if_pos (List.mem_map.mpr ⟨p, hp, rfl⟩)
  have okT : ∀ {b : Addr}, b ∈ cs.map (·.2) → s.heap.get? b = some { cls := .none, data := .fields #[] } := fun {b} hb => by
    obtain ⟨p, hp, e⟩ := List.mem_map.mp hb
    rw [← e]
    exact C.at_ p hp
  cases q : K.lookup a with
  | none =>
    have eA : twoH (cs.map (·.2)) a (some (.frz { cls := .type "list", data := .seq us.toArray } (.lst (ns.map V.int)))) a = some (.frz { cls := .type "list", data := .seq us.toArray } (.lst (ns.map V.int))) := (if_neg aT).trans (if_pos rfl)
    refine call_law (some (.frz { cls := .type "list", data := .seq us.toArray } (.lst (ns.map V.int)))) kin gl bl bo nl ng C hbm at_ room F bind (fun u e => by cases e; exact ⟨_, rfl⟩) (fun b u z => ?_) (fun _ _ => q) (hsp _ (.inl (.inr ⟨_, eA⟩)) (tT _))
    by_cases hb : b ∈ cs.map (·.2)
    · have z' := (if_pos hb).symm.trans z
      cases z'
      exact okT hb
    · have z' := (if_neg hb).symm.trans z
      obtain rfl := oneH_ne (a := a) (b := b) (by rw [z']; simp)
      cases (show some _ = some u from (if_pos rfl).symm.trans z')
      exact ⟨at_, by simpa using len, us, _, rel, at_⟩
  | some ob =>
    have e := kin a ob q
    rw [at_] at e
    cases e
    refine call_law none kin gl bl bo nl ng C hbm at_ room F bind (fun u e => by cases e) (fun b u z => ?_) (fun u e => by cases e) (hsp _ (.inr ⟨_, us.toArray, _, q, rfl, rfl, rfl, ?_, by simpa using rel⟩) (tT _))
    · by_cases hb : b ∈ cs.map (·.2)
      · have z' := (if_pos hb).symm.trans z
        cases z'
        exact okT hb
      · have z' := (if_neg hb).symm.trans z
        cases z'
    · rw [List.size_toArray, ia.length]
      exact len
/-- the end of a law over a head by facts -/
theorem walk_G {l : PySem.W.OpenLaw} {n k : Nat} {q : Program} {loose : List Str} {XP : (Str → Option Value) → Heap → Prop} {YP : World → Heap → Prop} {d : DefRec} {x : Str} (most : l.most = some n) (le : n ≤ sizeLine) (df : d.params.defaults = []) (room : Room k callerA)
    (F : ∀ (w : World) (mg : Str → Option Value) (f : Addr) (h : Heap), YP w h → h.Ns mainGlobals mg → mg d.name = some (.ref f) → ∃ (K : PySem.W.Frag) (cs : List (Addr × Addr)) (fd : FuncData) (sp : Sp), K.In h ∧ TbS K h cs ∧ (∀ (s : Shared) (u : Value), BindsTo s fd ⟨[u], []⟩ [(x, u)]) ∧
      (∀ (H : Hp) (a : Addr) (ns : List Int), ns.length ≤ n → SqL K H a (ns.map V.int) → (∀ p ∈ cs, H p.2 = some (.tbl #[])) → sp [.ref a] H (fun v _ => v = .bl true) fun _ _ _ => False) ∧ ∀ base : Heap, K.In base → base.Ns mainGlobals mg → (∀ p ∈ cs, LamX.TabB base mg p.1 p.2) → FnG l.prog w K mg base k f fd [x] sp) :
    PySem.W.WalkO q loose XP YP l.row.toRowW d [] (fun f vs => PySem.call f vs) := by
  apply Att.attach_call most df
  intro w _ s mg mb f _ _ _ _ a us ns G Y _ _ _ hmg at_ ia len ng
  obtain ⟨K, cs, fd, sp, kin, C, bind, hsp, FF⟩ := F w mg f _ Y G.T.g hmg
  exact law_callG kin G.T.g G.T.b G.T.builtins G.T.nolimit ng C G.T.bmain at_ ia (Nat.le_trans len le) room FF bind fun H => hsp H a ns len
end Ev

set_option Elab.async false
set_option linter.all false
set_option maxRecDepth 100000
set_option maxHeartbeats 1000000
/-! What is observed of the classes of errors and of the tables. -/
namespace Ev
open PySem PySem.Spec PyProof.Rows L2
/-! ### tables -/
def cdB (K : PySem.W.Frag) (c P : Addr) : Bool := match K.lookup c with
  | some ⟨.type t, _, .fields vs, _⟩ => decide (t = "code") && (decide (vs[11]? = some (.ref P)) && (decide (vs.getD 11 .none = .ref P) && ((match vs.getD 18 .none with
      | .str _ _ => true
      | _ => false) && ((match vs.getD 7 .none with
      | .int _ _ => true
      | _ => false) && ((match vs.getD 9 .none with
      | .bool _ => true
      | _ => false) && ((match vs.getD 10 .none with
      | .int _ _ => true
      | _ => false) && decide (c ≠ P)))))))
  | _ => false
theorem cdB_ok {K : PySem.W.Frag} {h : Heap} {c P : Addr} (X : K.In h) (e : cdB K c P = true) : PySem.W.CodeHd h c P := by
  unfold cdB at e
  split at e
  · rename_i t dd vs sl hl
    simp only [Bool.and_eq_true, decide_eq_true_eq] at e
    obtain ⟨e1, e2, e3, e4, e5, e6, e7, e8⟩ := e
    split at e4
    case h_2 => cases e4
    rename_i file tf h18
    split at e5
    case h_2 => cases e5
    rename_i fl tg h7
    split at e6
    case h_2 => cases e6
    rename_i inF h9
    split at e7
    case h_2 => cases e7
    rename_i tx tt h10
    subst e1
    exact ⟨_, vs, file, tf, fl, tg, inF, tx, tt, X _ _ hl, rfl, rfl, e2, e3, h18, h7, h9, h10, e8⟩
  · cases e
def tabX (K K2 : PySem.W.Frag) (x : Str) : Bool := match PySem.W.tabIn K x with
  | some (c, P) => (match K2.lookup P with
      | some ⟨.none, none, .fields vs, sl⟩ => vs.toList.isEmpty && sl.toList.isEmpty
      | _ => false) && (cdB K c P && (K.lookup P).isNone)
  | none => false
theorem tabX_ok {K K2 : PySem.W.Frag} {h : Heap} {x : Str} (X : K.In h) (X2 : K2.In h) (e : tabX K K2 x = true) : ∃ c P, PySem.W.tabIn K x = some (c, P) ∧ PySem.W.CodeHd h c P ∧ K.lookup P = none ∧ h.get? P = some { cls := .none, data := .fields #[] } := by
  unfold tabX at e
  split at e
  · rename_i c P ht
    simp only [Bool.and_eq_true] at e
    obtain ⟨e1, e2, e3⟩ := e
    split at e1
    · rename_i vs sl hl
      simp only [Bool.and_eq_true, List.isEmpty_iff] at e1
      have v0 : vs = #[] := Array.toList_inj.mp e1.1
      have s0 : sl = #[] := Array.toList_inj.mp e1.2
      subst v0 s0
      exact ⟨c, P, ht, cdB_ok X e2, Option.isNone_iff_eq_none.mp e3, X2 _ _ hl⟩
    · cases e1
  · cases e
/-- the tables of the defs xs -/
def csOf (K : PySem.W.Frag) (xs : List Str) : List (Addr × Addr) := xs.filterMap (PySem.W.tabIn K)
def tOf (K : PySem.W.Frag) (xs : List Str) : List (Addr × Str) := xs.filterMap fun x => (PySem.W.tabIn K x).map fun p => (p.2, x ++ ".<locals>." ++ "<lambda>")
def unB (T : List (Addr × Str)) : Bool := T.all fun p => T.all fun q => !(p.1 == q.1) || p.2 == q.2
theorem unB_ok {T : List (Addr × Str)} (e : unB T = true) {p q : Addr × Str} (hp : p ∈ T) (hq : q ∈ T) (h : q.1 = p.1) : q.2 = p.2 := by
  have z := List.all_eq_true.mp (List.all_eq_true.mp e q hq) p hp
  rw [h] at z
  simp at z
  exact z
theorem tbS_of {K K2 : PySem.W.Frag} {h : Heap} {xs : List Str} (X : K.In h) (X2 : K2.In h) (e : xs.all (tabX K K2) = true) : TbS K h (csOf K xs) := by
  have key : ∀ p ∈ csOf K xs, PySem.W.CodeHd h p.1 p.2 ∧ K.lookup p.2 = none ∧ h.get? p.2 = some { cls := .none, data := .fields #[] } := fun p hp => by
    obtain ⟨x, hx, q⟩ := List.mem_filterMap.mp hp
    obtain ⟨c, P, h1, h2, h3, h4⟩ := tabX_ok X X2 (List.all_eq_true.mp e x hx)
    rw [h1] at q
    cases q
    exact ⟨h2, h3, h4⟩
  exact ⟨fun p hp => (key p hp).2.2, fun p hp => (key p hp).2.1, fun p hp => (key p hp).1⟩
theorem tabs_of {K : PySem.W.Frag} {xs : List Str} {H : Hp} (hH : ∀ p ∈ csOf K xs, H p.2 = some (.tbl #[])) : LamX.Tabs (tOf K xs) H := fun p hp => by
  obtain ⟨x, hx, q⟩ := List.mem_filterMap.mp hp
  obtain ⟨r, h1, h2⟩ := Option.map_eq_some_iff.mp q
  subst h2
  exact LamX.TabS.nil (hH r (List.mem_filterMap.mpr ⟨x, hx, h1⟩))
theorem tbAt_of {K K2 : PySem.W.Frag} {h base : Heap} {mg : Str → Option Value} {xs : List Str} {x : Str} {fd : FuncData} {a : Addr} {oc : Value} {od : Option Addr} {osl : Array (Option Value)} (X : K.In h) (X2 : K2.In h) (G : h.Ns mainGlobals mg) (e : xs.all (tabX K K2) = true) (u : unB (tOf K xs) = true) (hx : x ∈ xs)
    (hm : mg x = some (.ref a)) (ha : K.lookup a = some ⟨oc, od, .func fd, osl⟩) (TB : ∀ p ∈ csOf K xs, LamX.TabB base mg p.1 p.2) : TbAt (tOf K xs) base mg x fd := by
  obtain ⟨c, P, h1, h2, h3, h4⟩ := tabX_ok X X2 (List.all_eq_true.mp e x hx)
  have m1 : (c, P) ∈ csOf K xs := List.mem_filterMap.mpr ⟨x, hx, h1⟩
  have m2 : (P, x ++ ".<locals>." ++ "<lambda>") ∈ tOf K xs := List.mem_filterMap.mpr ⟨x, hx, by rw [h1]; rfl⟩
  exact ⟨c, P, PySem.W.law_code X G h1 hm (X _ _ ha) rfl, TB _ m1, m2, fun p hp z => unB_ok u m2 hp z⟩
end Ev

set_option Elab.async false
set_option linter.all false
set_option maxRecDepth 100000
set_option maxHeartbeats 1000000
/-! What is observed of the classes of errors. -/
namespace Ev
open PySem PySem.Spec PyProof.Rows L2
def oexB (K : PySem.W.Frag) (C : Addr) : Bool := match K.lookup C with
  | some ⟨.type t, _, .cls ⟨_, _, .ref C' :: bm, _, _, true, _, _, _, _, false⟩, ⟨[_, _, _, _, some (.builtin nw), _]⟩⟩ => decide (t = "type") && (decide (C' = C) && (PySem.HandSPX.refsVE bm && decide (nw = "ValueError.__new__")))
  | _ => false
theorem oexB_ok {K : PySem.W.Frag} {C : Addr} (h : oexB K C = true) : ∃ nm q N bs bm sn sub ab col dd k0 k1 k2 k3 k5, K.lookup C = some (excClassObj nm q C N bs bm true sn sub ab col dd k0 k1 k2 k3 k5 "ValueError.__new__") ∧ PySem.HandSPX.refsVE bm = true := by
  unfold oexB at h
  split at h
  · rename_i hl
    simp only [Bool.and_eq_true, decide_eq_true_eq] at h
    obtain ⟨rfl, rfl, h3, rfl⟩ := h
    exact ⟨_, _, _, _, _, _, _, _, _, _, _, _, _, _, _, hl, h3⟩
  · cases h
def fIni (K : PySem.W.Frag) : Addr := He.ma K (He.ga K "RungError") "__init__"
def errB (K : PySem.W.Frag) (c : Str) : Bool :=
  oexB K (He.ga K c) && (decide (PySem.W.findIn K (.ref (He.ga K c)) "__setattr__" = some (some (.builtin "object.__setattr__"))) && (decide (PySem.W.subIn K (.ref (He.ga K c)) (.type "BaseException") = some true) && (decide (PySem.W.typeIn K (.ref (He.ga K c)) = some (.type "type")) && (PySem.W.keepIn K (.ref (He.ga K c)) &&
  (decide (PySem.W.mroIn K (He.ga K c) (.ref (He.ga K "RungError")) = some true) && (decide (PySem.W.ks_superIn K (He.ga K c) (He.ga K "RungError") "__init__" = some (some (.builtin "ValueError.__init__"))) && (decide (PySem.W.subIn K (.ref (He.ga K c)) (.type "ValueError") = some true) && (decide (PySem.W.findIn K (.ref (He.ga K c)) "value" = some none) &&
  (decide (PySem.W.findIn K (.ref (He.ga K c)) "__init__" = some (some (.ref (fIni K)))) && (decide (PySem.W.exmOne K (.ref (He.ga K c)) (.ref (He.ga K "RungError")) = some true) && (xfB K (He.ga K c) &&
  (decide (PySem.W.findIn K (.ref (He.ga K c)) "__class__" = some (some (.builtin "object.__class__"))) && (decide (PySem.W.specialIn K (.builtin "object.__class__") "__get__" = some (some (.builtin "getset_descriptor.__get__"))) && (decide (PySem.W.takesIn K (.builtin "object.__class__") = some true) && decide (PySem.W.mroIn K (He.ga K c) (.type "object") = some true)))))))))))))))
/-- the def __init__ of RungError, as written -/
def iniA (q0 q1 : Pos) : Arguments := ⟨[], [⟨"self", none, q0⟩, ⟨"value", none, q1⟩], none, [], [], none, []⟩
def iniSt (p0 p1 p2 p3 p4 p5 p6 p7 p8 p9 : Pos) : List Stmt := [.Expr (.Call (.Attribute (.Call (.Name "super" p0) [] [] p1) "__init__" p2) [.Name "value" p3] [] p4) p5, .Assign [.Attribute (.Name "self" p6) "value" p7] (.Name "value" p8) p9]
def iniSc : Scope := { kind := .function, names := [("self", .local), ("value", .local), ("__class__", .free), ("super", .globalImplicit)], isGenerator := false, isCoroutine := false, more := [] }
abbrev Ini : Type := Option (Str × Str × Arguments × FuncBody × Scope × Addr × List Str × Addr)
def iniW (K : PySem.W.Frag) : Ini := match K.lookup (fIni K) with
  | some ⟨_, _, .func fd, _⟩ => some (fd.name, fd.qualname, fd.params, fd.body, fd.scope, fd.globals, fd.closure.map (·.1), fd.builtins)
  | _ => none
def iniV (q0 q1 p0 p1 p2 p3 p4 p5 p6 p7 p8 p9 : Pos) : Ini := some ("__init__", "RungError.__init__", iniA q0 q1, .stmts (iniSt p0 p1 p2 p3 p4 p5 p6 p7 p8 p9), iniSc, mainGlobals, ["__class__"], builtinsNs)
def iniB (K : PySem.W.Frag) (file : Str) : Bool := decide (PySem.W.typeIn K (.ref (fIni K)) = some (.type "function")) && ((PySem.W.clsIn K (He.ga K "RungError")).isSome && (decide (PySem.W.nsIn K cStatics "thirdparty.any" = some none) && (match K.lookup (fIni K) with
  | some ⟨_, _, .func fd, _⟩ => (match fd.code, fd.closure with
    | .ref cda, [(_, cc)] => decide (fd.defaults = .none) && (PySem.W.codeIn K (.ref cda) fd.qualname && ((match K.lookup cda with
      | some ⟨_, _, .fields vs, _⟩ => (match (vs[2]? : Option Value) with
        | some (.str f _) => file == f
        | _ => false)
      | _ => false) && (match K.lookup cc with
      | some ⟨_, _, .cell (some (.ref D)), _⟩ => decide (D = He.ga K "RungError")
      | _ => false)))
    | _, _ => false)
  | _ => false)))
theorem ini_get {K : PySem.W.Frag} {file : Str} {q0 q1 p0 p1 p2 p3 p4 p5 p6 p7 p8 p9 : Pos} (h : iniB K file = true) (e : iniW K = iniV q0 q1 p0 p1 p2 p3 p4 p5 p6 p7 p8 p9) : PySem.W.typeIn K (.ref (fIni K)) = some (.type "function") ∧ (∃ cd, PySem.W.clsIn K (He.ga K "RungError") = some cd) ∧ PySem.W.nsIn K cStatics "thirdparty.any" = some none ∧
    ∃ (kV doc pm ct oc : Value) (an od : Option Addr) (osl : Array (Option Value)) (cda cc : Addr), K.lookup (fIni K) = some ⟨oc, od, .func (PySem.W.ksFn "__init__" "RungError.__init__" (iniA q0 q1) (iniSt p0 p1 p2 p3 p4 p5 p6 p7 p8 p9) iniSc .none kV doc pm an (.ref cda) ct cc), osl⟩ ∧ PySem.W.codeIn K (.ref cda) "RungError.__init__" = true ∧
    (∃ (ccl : Value) (cdd : Option Addr) (vs : Array Value) (ccs : Array (Option Value)) (f : Str) (tf : Tok), K.lookup cda = some ⟨ccl, cdd, .fields vs, ccs⟩ ∧ vs[2]? = some (.str f tf) ∧ (file == f) = true) ∧
    ∃ (cl : Value) (cld : Option Addr) (csl : Array (Option Value)), K.lookup cc = some ⟨cl, cld, .cell (some (.ref (He.ga K "RungError"))), csl⟩ := by
  unfold iniB at h
  simp only [Bool.and_eq_true, decide_eq_true_eq] at h
  obtain ⟨h1, h2, h3, h4⟩ := h
  refine ⟨h1, Option.isSome_iff_exists.mp h2, h3, ?_⟩
  unfold iniW at e
  split at h4
  case h_2 => cases h4
  rename_i oc od fd osl hl
  rw [hl] at e
  split at h4
  case h_2 => cases h4
  rename_i cda y cc hcd hcl
  simp only [Bool.and_eq_true] at h4
  obtain ⟨h8, h5, h6, h7⟩ := h4
  split at h6
  case h_2 => cases h6
  rename_i ccl cdd vs ccs hc
  split at h6
  case h_2 => cases h6
  rename_i f tf hv
  split at h7
  case h_2 => cases h7
  rename_i cl cld D csl hcc
  obtain ⟨n1, n2, n3, n4, n5, n6, n7, n8, n9, n10, n11, n12, n13, n14, n15⟩ := fd
  cases hcd
  cases hcl
  have e2 : (some (n1, n2, n3, n4, n5, n6, [y], n15) : Ini) = iniV q0 q1 p0 p1 p2 p3 p4 p5 p6 p7 p8 p9 := e
  simp only [iniV, Option.some.injEq, Prod.mk.injEq, List.cons.injEq, and_true] at e2
  obtain ⟨rfl, rfl, rfl, rfl, rfl, rfl, rfl, rfl⟩ := e2
  have eD := of_decide_eq_true h7
  have e8 := of_decide_eq_true h8
  subst eD
  cases e8
  exact ⟨n9, n10, n11, n14, oc, n12, od, osl, cda, cc, hl, h5, ⟨ccl, cdd, vs, ccs, f, tf, hc, hv, h6⟩, cl, cld, csl, hcc⟩
theorem ini_ev {p0 p1 p2 p3 p4 : Pos} (hl : (p2.endLine == p4.line) = true) (env : Env) : eval (.Call (.Attribute (.Call (.Name "super" p0) [] [] p1) "__init__" p2) [.Name "value" p3] [] p4) env = (do
      let ov ← attributeBase (.Call (.Name "super" p0) [] [] p1) "__init__" env (eval (.Call (.Name "super" p0) [] [] p1) env)
      standAt p2.atName
      let (f, first) ← holding [ov] (getMethod ov "__init__" (do return (← importBound (.Call (.Name "super" p0) [] [] p1) env).getD true))
      callWith p4 f first (backTo p4 (starEach [.Name "value" p3] env)) []) := by
  have hpos : methodCallPos true (.Call (.Name "super" p0) [] [] p1) env p2 p4 = pure p4 := by unfold methodCallPos; simp [hl]
  have hm : ∀ ov, methodCall (.Call (.Name "super" p0) [] [] p1) "__init__" p2 p4 env ov 1 (backTo p4 (starEach [.Name "value" p3] env)) [] = (do
      let (f, first) ← holding [ov] (getMethod ov "__init__" (do return (← importBound (.Call (.Name "super" p0) [] [] p1) env).getD true))
      callWith p4 f first (backTo p4 (starEach [.Name "value" p3] env)) []) := fun ov => by
    have hform : methodCallForm 1 (backTo p4 (starEach [.Name "value" p3] env)) [] = true := rfl
    unfold methodCall
    rw [hform, hpos]
    simp only [pure_bind]
    rfl
  show (do
      let ov ← attributeBase (.Call (.Name "super" p0) [] [] p1) "__init__" env (eval (.Call (.Name "super" p0) [] [] p1) env)
      standAt p2.atName
      methodCall (.Call (.Name "super" p0) [] [] p1) "__init__" p2 p4 env ov 1 (backTo p4 (starEach [.Name "value" p3] env)) []) = _
  simp only [hm]
theorem errB_ok {P : Program} {K : PySem.W.Frag} {mg : Str → Option Value} {c : Str} {q0 q1 p0 p1 p2 p3 p4 p5 p6 p7 p8 p9 : Pos} (h : errB K c = true) (hi : iniB K P.main.file = true) (e : iniW K = iniV q0 q1 p0 p1 p2 p3 p4 p5 p6 p7 p8 p9) (hm : mg c = some (.ref (He.ga K c))) (ht : (P.main.scope.names.lookup ("super" : Str)).isSome = false) (hln : (p2.endLine == p4.line) = true) : ErrOk P K mg c := by
  unfold errB at h
  simp only [Bool.and_eq_true, decide_eq_true_eq] at h
  obtain ⟨g1, g2, g3, g4, g5, g6, g7, g8, g9, g10, g11, g12, g13, g14, g15, g16⟩ := h
  obtain ⟨i1, i2, i3, kV, doc, pm, ct, oc, an, od, osl, cda, cc, hl, hcd, hf, hc⟩ := ini_get hi e
  have xf := xfB_ok g12
  refine ⟨hm, ⟨fIni K, He.ga K "RungError", ⟨⟨_, _, _, _, .none, kV, doc, pm, ct, oc, an, od, osl, cda, cc, p0, p1, p2, p3, p4, p5, p6, p7, p8, p9, hl, hcd, ⟨_, rfl, rfl⟩, ⟨by decide +kernel, by decide +kernel, by decide +kernel, by decide +kernel, by decide +kernel, rfl, rfl, rfl⟩, hf, hc, ⟨fun env => (do return (← importBound (.Call (.Name "super" p0) [] [] p1) env).getD true), fun env => ini_ev hln env⟩, fun env => rfl, fun env => rfl, fun s a u => BindsTo.of_eq rfl⟩, i2, g6, ⟨oexB_ok g1, g2, g3, g4, g5⟩, g7, g8, i3, g9, ht⟩, g10, i1⟩, g11, xf, ⟨xf.ga, xf.gg, xf.exC, xf.hdC, g13, g14, g15, g16⟩⟩
end Ev

set_option Elab.async false
set_option linter.all false
set_option maxRecDepth 100000
set_option maxHeartbeats 1000000
/-! A program by its table. -/
namespace Ev
open PySem PySem.Spec PyProof.Rows L2
/-! ### a program by its table -/
structure EntOk (G : Ga) (prog : Nat → Option FD) (fa : List He.Fa) (fn : List He.DefD) (xs : List Str) (f : Nat) (x y : Str) (st : Stmt) (d : FD) (N ps : List Str) (i j : Nat) : Prop where
  pf : prog f = some d
  dn : fn[i]? = some ⟨(x, none), y, y, defArgs st, defBody st, defScope st, [], []⟩
  gl : fa[j]? = some (.glo x)
  sc : FnScope N ps (defScope st)
  ck : chkSs { G with N := N, lam := d.lam } (defScope st) d.body (defBody st) = true
  lm : d.lam = .nil ∨ (x ∈ xs ∧ y = x)
  sl : d.slots = N.length
  pr : d.par = ps.length
  bd : ∀ (kV doc pm : Value) (an : Option Addr) (cdv ct : Value) (us : List Value), us.length = ps.length → bindArgs (PySem.W.fnOf y y (defArgs st) (defBody st) (defScope st) .none kV doc pm an cdv ct) ⟨us, []⟩ = pure (ps.zip us)
  kb : ∀ q ∈ G.kb.filter (fun q => q.1 == f), q.2.2.length = ps.length ∧ ∀ (kV doc pm : Value) (an : Option Addr) (cdv ct : Value) (ws : List Value), ws.length = q.2.1.length →
    bindArgs (PySem.W.fnOf y y (defArgs st) (defBody st) (defScope st) .none kV doc pm an cdv ct) ⟨[], q.2.1.zip ws⟩ = pure (ps.zip (q.2.2.map fun i => ws.getD i .none))
structure FcOk (prog : Nat → Option FD) (fa : List He.Fa) (fn : List He.DefD) (f : Nat) (x : Str) (st : Stmt) (d : FD) (N ps : List Str) (i j : Nat) (v : Bool) : Prop where
  pf : prog f = some d
  dn : fn[i]? = some ⟨(x, none), x, x, defArgs st, defBody st, defScope st, [], []⟩
  gl : fa[j]? = some (.glo x)
  sc : FnScope N ps (defScope st)
  ck : (if v then isV2 else isV1) (defScope st) N ps (defBody st) = true
  bo : d.body = .cons (.cret 0 v) .nil
  pr : d.par = 1
  lm : d.lam = .nil
  pl : ps.length = 1
  bd : ∀ (kV doc pm : Value) (an : Option Addr) (cdv ct : Value) (us : List Value), us.length = ps.length → bindArgs (PySem.W.fnOf x x (defArgs st) (defBody st) (defScope st) .none kV doc pm an cdv ct) ⟨us, []⟩ = pure (ps.zip us)
def AllE (G : Ga) (prog : Nat → Option FD) (fa : List He.Fa) (fn : List He.DefD) (xs : List Str) : List (Nat × Str) → Prop
  | [] => True
  | (f, x) :: r => (∃ y st d N ps i j, EntOk G prog fa fn xs f x y st d N ps i j) ∧ AllE G prog fa fn xs r
theorem AllE.get {G : Ga} {prog : Nat → Option FD} {fa : List He.Fa} {fn : List He.DefD} {xs : List Str} {f : Nat} {x : Str} : ∀ {l : List (Nat × Str)}, AllE G prog fa fn xs l → l.lookup f = some x → ∃ y st d N ps i j, EntOk G prog fa fn xs f x y st d N ps i j
  | (g, y) :: r, h, e => by
    rw [List.lookup_cons] at e
    split at e
    · rename_i hb
      cases e
      obtain rfl := eq_of_beq hb
      exact h.1
    · exact AllE.get h.2 e
def AllF (prog : Nat → Option FD) (fa : List He.Fa) (fn : List He.DefD) : List (Nat × Str) → Prop
  | [] => True
  | (f, x) :: r => (∃ st d N ps i j v, FcOk prog fa fn f x st d N ps i j v) ∧ AllF prog fa fn r
theorem AllF.get {prog : Nat → Option FD} {fa : List He.Fa} {fn : List He.DefD} {f : Nat} {x : Str} : ∀ {l : List (Nat × Str)}, AllF prog fa fn l → l.lookup f = some x → ∃ st d N ps i j v, FcOk prog fa fn f x st d N ps i j v
  | (g, y) :: r, h, e => by
    rw [List.lookup_cons] at e
    split at e
    · rename_i hb
      cases e
      obtain rfl := eq_of_beq hb
      exact h.1
    · exact AllF.get h.2 e
section
variable [Zc]
/-- a constant of the module, told by a fact; a tuple of such by a table -/
def cnFa : Str × D → Option He.Fa
  | (x, .int i) => some (.int x i)
  | (x, .str z) => some (.str x z)
  | _ => none
def dvOf : D → Option He.Dv
  | .none => some .non
  | .bool b => some (.bl b)
  | .int i => some (.int i)
  | .str x => some (.str x)
  | _ => none
def dvsOf : List D → Option (List He.Dv)
  | [] => some []
  | d :: r => match dvOf d, dvsOf r with
    | some v, some vs => some (v :: vs)
    | _, _ => none
abbrev Tb : Type := List (Str × List He.Dv)
theorem rps_dvs {K K' : PySem.W.Frag} {cs : List Addr} {Av : Addr → Prop} {H : Hp} : ∀ {ds : List D} {vs : List He.Dv}, dvsOf ds = some vs → Rps K cs Av H (vs.map (He.Dv.v K')) ds
  | [], vs, h => by cases h; exact .nil
  | d :: r, vs, h => by
    unfold dvsOf at h
    split at h
    · rename_i v us e1 e2
      cases h
      refine .cons ?_ (rps_dvs e2)
      cases d <;> cases e1
      · exact .non
      · exact .bl _
      · exact .int _
      · exact .str _
    · cases h
/-- a written tuple without a dict -/
def tupC (K : PySem.W.Frag) (x : Str) (vs : List He.Dv) : Bool := He.tupB K x vs && (match K.lookup (He.ga K x) with
  | some o => o.dict.isNone
  | none => false)
theorem tupC_ok {K : PySem.W.Frag} {x : Str} {vs : List He.Dv} (h : tupC K x vs = true) (H : Hp) : SqD K H (He.ga K x) (vs.map (He.Dv.v K)) := by
  unfold tupC at h
  rw [Bool.and_eq_true] at h
  rcases He.tupB_ok h.1 (fun _ => none) with (z | ⟨_, z⟩) | ⟨o, its, n, h1, h2, h3, h4, h5⟩
  · cases z
  · cases z
  · have h6 := h.2
    rw [h1] at h6
    exact .inr ⟨o, its, n, h1, h2, Option.isNone_iff_eq_none.mp h6, h3, h4, h5⟩
end

/-! ### what is observed -/
def notTab (g : Addr → Option Obj) (a : Addr) : Bool := match g a with
  | some ⟨.none, _, .fields _, _⟩ => false
  | _ => true
def asX (g : Addr → Option Obj) : Nat → List Addr
  | 0 => [mainGlobals, cStatics]
  | n + 1 => He.growD g (asX g n)
def errsX (K : PySem.W.Frag) (er : List Str) (file : Str) : Bool := er.isEmpty || (er.all (errB K) && (iniB K file && ((er.all fun c => er.all fun x => decide (PySem.W.kitOne K (.ref (He.ga K c)) (.ref (He.ga K x)) = some (c == x))) && er.all fun x => decide (PySem.W.kitOne K (.type "NoneType") (.ref (He.ga K x)) = some false))))
def okX (tb : Tb) (er xs : List Str) (file : Str) (K K2 : PySem.W.Frag) : Bool := (tb.all fun t => tupC K t.1 t.2) && (xs.all (tabX K K2) && (unB (tOf K xs) && errsX K er file))
def obsK (fa : List He.Fa) (fn : List He.DefD) (tb : Tb) (er xs : List Str) (file : Str) (K K2 : PySem.W.Frag) : Bool × He.AlD × Ini := (okX tb er xs file K K2, He.obsD fa fn K, if er.isEmpty then none else iniW K)
def obsX (n : Nat) (fa : List He.Fa) (fn : List He.DefD) (tb : Tb) (er xs : List Str) (file : Str) (g : Addr → Option Obj) : Bool × He.AlD × Ini := obsK fa fn tb er xs file (He.frG g ((asX g n).filter (notTab g))) (He.frG g (asX g n))
/-- what is said of the heap -/
structure SaysX (fa : List He.Fa) (fn : List He.DefD) (tb : Tb) (er xs : List Str) (file : Str) (iv : Ini) (K K2 : PySem.W.Frag) (h : Heap) : Prop where
  kin : K.In h
  kin2 : K2.In h
  says : He.SaysD fa fn K
  ok : okX tb er xs file K K2 = true
  ini : er ≠ [] → iniW K = iv
def hookX (n : Nat) (fa : List He.Fa) (fn : List He.DefD) (tb : Tb) (er xs : List Str) (file : Str) (iv : Ini) : PySem.W.Hook where
  α := Bool × He.AlD × Ini
  obs := fun s => obsX n fa fn tb er xs file s.heap.get?
  val := fun _ => (true, He.valD fn, if er.isEmpty then none else iv)
  says := fun _ h => ∃ K K2 : PySem.W.Frag, SaysX fa fn tb er xs file iv K K2 h
  of := fun _ s e => ⟨_, _, He.frG_in, He.frG_in, congrArg (fun z : Bool × He.AlD × Ini => z.2.1) e, congrArg (fun z : Bool × He.AlD × Ini => z.1) e, fun hn => by
    have z := congrArg (fun z : Bool × He.AlD × Ini => z.2.2) e
    have hf : er.isEmpty = false := by cases er with
      | nil => exact absurd rfl hn
      | cons a b => rfl
    simp only [obsX, obsK, hf] at z
    exact z⟩
  keeps := fun _ _ _ ⟨K, K2, c⟩ k => ⟨K, K2, PySem.W.Frag.In.keeps c.kin k, PySem.W.Frag.In.keeps c.kin2 k, c.says, c.ok, c.ini⟩
theorem obsX_eq {n : Nat} {fa : List He.Fa} {fn : List He.DefD} {tb : Tb} {er xs : List Str} {file : Str} {iv : Ini} {g : Addr → Option Obj} {s : Shared} (h : ∀ a, g a = s.heap.get? a) : obsX n fa fn tb er xs file g = (hookX n fa fn tb er xs file iv).obs s := by
  have e : g = s.heap.get? := funext h
  rw [e] <;> rfl
def AllC (fa : List He.Fa) (tb : Tb) : List (Str × D) → Prop
  | [] => True
  | c :: r => ((∃ (j : Nat) (f : He.Fa), cnFa c = some f ∧ fa[j]? = some f) ∨ ∃ (j k : Nat) (ds : List D) (vs : List He.Dv), c.2 = .tuple ds ∧ dvsOf ds = some vs ∧ tb[k]? = some (c.1, vs) ∧ fa[j]? = some (.glo c.1)) ∧ AllC fa tb r
theorem AllC.get {fa : List He.Fa} {tb : Tb} {x : Str} {d : D} : ∀ {l : List (Str × D)}, AllC fa tb l → l.lookup x = some d →
    (∃ (j : Nat) (f : He.Fa), cnFa (x, d) = some f ∧ fa[j]? = some f) ∨ ∃ (j k : Nat) (ds : List D) (vs : List He.Dv), d = .tuple ds ∧ dvsOf ds = some vs ∧ tb[k]? = some (x, vs) ∧ fa[j]? = some (.glo x)
  | (y, e) :: r, h, q => by
    rw [List.lookup_cons] at q
    split at q
    · rename_i hb
      cases q
      obtain rfl := eq_of_beq hb
      exact h.1
    · exact AllC.get h.2 q

theorem big_of {l : List (Nat × FD)} (h : (l.all fun p => decide (p.1 < B0)) = true) : ∀ f, B0 ≤ f → l.lookup f = none := fun f hf => by
  induction l with
  | nil => rfl
  | cons p r ih =>
    simp only [List.all_cons, Bool.and_eq_true, decide_eq_true_eq] at h
    rw [List.lookup_cons]
    have : (f == p.1) = false := by
      apply Bool.eq_false_iff.mpr
      intro z
      have := eq_of_beq z
      omega
    rw [this]
    exact ih h.2
/-- what a head shows of its law -/
structure LawX (P : Program) (G : Ga) (prog : Nat → Option FD) (fa : List He.Fa) (fn : List He.DefD) (tb : Tb) (er xs : List Str) (file : Str) (iv : Ini) : Prop where
  hb : ∀ x ∈ bltNames, ∃ j : Nat, fa[j]? = some (.free x)
  hc : AllC fa tb G.cn
  he : AllE G prog fa fn xs G.fn
  hf : AllF prog fa fn G.fc
  ge : G.er = er
  fd : G.fd = []
  big : ∀ f, B0 ≤ f → prog f = none
  sup : ∃ j : Nat, fa[j]? = some (.free "super")
  gl : ∀ c ∈ er, ∃ j : Nat, fa[j]? = some (.glo c)
  rg : er ≠ [] ∨ G.fc ≠ [] → ∃ j : Nat, fa[j]? = some (.glo "RungError")
  fl : file = P.main.file
  sn : (P.main.scope.names.lookup ("super" : Str)).isSome = false
  iv : er ≠ [] → ∃ q0 q1 p0 p1 p2 p3 p4 p5 p6 p7 p8 p9, iv = iniV q0 q1 p0 p1 p2 p3 p4 p5 p6 p7 p8 p9 ∧ (p2.endLine == p4.line) = true
theorem bs_of {P : Program} {w : World} {K K2 : PySem.W.Frag} {mg : Str → Option Value} {h base : Heap} {G : Ga} {prog : Nat → Option FD} {fa : List He.Fa} {fn : List He.DefD} {tb : Tb} {er xs : List Str} {file : Str} {iv : Ini} (S : SaysX fa fn tb er xs file iv K K2 h) (N : h.Ns mainGlobals mg) (L : LawX P G prog fa fn tb er xs file iv)
    (TB : ∀ p ∈ csOf K xs, LamX.TabB base mg p.1 p.2) : Bs (tOf K xs) er P w K mg base G prog := by
  have X := S.kin
  have c := S.says
  have o := S.ok
  unfold okX at o
  simp only [Bool.and_eq_true] at o
  obtain ⟨ct, o2, o3, o4⟩ := o
  have errs : ∀ c ∈ er, ErrOk P K mg c := fun c' hc' => by
    have hne : er ≠ [] := fun z => by rw [z] at hc'; cases hc'
    unfold errsX at o4
    have hf : er.isEmpty = false := by cases er with
      | nil => exact absurd rfl hne
      | cons a b => rfl
    rw [hf, Bool.false_or] at o4
    simp only [Bool.and_eq_true] at o4
    obtain ⟨j, hj⟩ := L.gl c' hc'
    obtain ⟨q0, q1, p0, p1, p2, p3, p4, p5, p6, p7, p8, p9, e, hln⟩ := L.iv hne
    exact errB_ok (List.all_eq_true.mp o4.1 c' hc') (by rw [← L.fl]; exact o4.2.1) ((S.ini hne).trans e) (He.glo_ok X N (c.fact j hj)) L.sn hln
  refine ⟨fun x hx => ?_, fun x d hx => ?_, L.big, L.ge, ?_, fun f x hx => ?_, fun f x hx => ?_, L.fd⟩
  · obtain ⟨j, hj⟩ := L.hb x hx
    exact He.free_ok X N (c.fact j hj)
  · rcases L.hc.get hx with ⟨j, f, h1, h2⟩ | ⟨j, k, ds, vs, rfl, h1, h2, h3⟩
    case inr =>
      have q := List.all_eq_true.mp ct _ (List.mem_of_getElem? h2)
      exact ⟨_, .ref (He.ga K x), He.glo_ok X N (c.fact j h3), rfl, fun z cs Av H => by
        letI : Zc := ⟨tOf K xs, er, z⟩
        exact .tup (tupC_ok q H) (rps_dvs h1)⟩
    cases d with
    | int i =>
      cases h1
      obtain ⟨t, ht⟩ := He.int_ok X N (c.fact j h2)
      exact ⟨_, .int i, ht, ⟨t, rfl⟩, fun z _ _ _ => @Rp.int ⟨_, _, z⟩ _ _ _ _ i⟩
    | str y =>
      cases h1
      obtain ⟨t, ht⟩ := He.str_ok X N (c.fact j h2)
      exact ⟨_, .str y, ht, ⟨t, rfl⟩, fun z _ _ _ => @Rp.str ⟨_, _, z⟩ _ _ _ _ y⟩
    | _ => cases h1
  · rw [L.ge]
    refine ⟨errs, fun hne => ?_, ?_, fun c' hc' x hx => ?_, fun x hx => ?_⟩
    · obtain ⟨j, hj⟩ := L.rg (.inl hne)
      exact He.glo_ok X N (c.fact j hj)
    · obtain ⟨j, hj⟩ := L.sup
      exact He.free_ok X N (c.fact j hj)
    · have hf : er.isEmpty = false := by cases er with
        | nil => cases hc'
        | cons a b => rfl
      unfold errsX at o4
      rw [hf, Bool.false_or] at o4
      simp only [Bool.and_eq_true] at o4
      exact of_decide_eq_true (List.all_eq_true.mp (List.all_eq_true.mp o4.2.2.1 c' hc') x hx)
    · have hf : er.isEmpty = false := by cases er with
        | nil => cases hx
        | cons a b => rfl
      unfold errsX at o4
      rw [hf, Bool.false_or] at o4
      simp only [Bool.and_eq_true] at o4
      exact of_decide_eq_true (List.all_eq_true.mp o4.2.2.2 x hx)
  · obtain ⟨y, st, d, N', ps, i, j, e⟩ := L.he.get hx
    obtain ⟨fd, F⟩ := c.def_ i e.dn
    have bd : Binds K fd ps [] := FunD.bindsN F e.bd
    have hm := He.glo_ok X N (c.fact j e.gl)
    refine ⟨y, d, N', ps, _, _, _, _, fd, e.pf, hm, F, e.sc, e.ck, e.sl, e.pr, bd, fun hl => ?_, fun ks perm hmk => ?_⟩
    · obtain ⟨hx2, rfl⟩ := e.lm.resolve_left hl
      obtain ⟨oc, od, dV, kV, doc, pm, an, cdv, ct, osl, rfl, lk, hcd, hD, hK⟩ := F.ex
      exact tbAt_of X S.kin2 N o2 o3 hx2 hm lk TB
    · obtain ⟨oc, od, dV, kV, doc, pm, an, cdv, ct, osl, rfl, lk, hcd, hD, hK⟩ := F.ex
      have hk := e.kb (f, ks, perm) (List.mem_filter.mpr ⟨hmk, by simp⟩)
      refine ⟨hk.1, fun ws hl => ?_⟩
      rcases hD with ⟨_, rfl⟩ | ⟨z, _⟩
      · exact hk.2 kV doc pm an cdv ct ws hl
      · exact absurd rfl z
  · obtain ⟨st, d, N', ps, i, j, v, e⟩ := L.hf.get hx
    obtain ⟨fd, F⟩ := c.def_ i e.dn
    obtain ⟨jr, hr⟩ := L.rg (.inr fun z => by rw [z] at hx; cases hx)
    refine ⟨⟨He.glo_ok X N (c.fact jr hr), fun c' hc' => (errs c' hc').exm⟩, x, d, N', ps, _, _, _, _, fd, v, e.pf, He.glo_ok X N (c.fact j e.gl), F, e.sc, e.ck, e.bo, e.pr, e.lm, e.pl, FunD.bindsN F e.bd⟩
/-- a law by its table -/
theorem law_of {P : Program} {w : World} {K K2 : PySem.W.Frag} {mg : Str → Option Value} {h : Heap} {G : Ga} {prog : Nat → Option FD} {fa : List He.Fa} {fn : List He.DefD} {tb : Tb} {er xs : List Str} {file : Str} {iv : Ini} {f : Addr} {W k n : Nat} {d : FD} {st : Stmt} {N : List Str} {i j : Nat} (S : SaysX fa fn tb er xs file iv K K2 h) (hn : h.Ns mainGlobals mg) (L : LawX P G prog fa fn tb er xs file iv) (hf : mg ("law" : Str) = some (.ref f))
    (dn : fn[i]? = some ⟨("law", none), "law", "law", defArgs st, defBody st, defScope st, [], []⟩) (gl : fa[j]? = some (.glo "law")) (sc : FnScope N ["script"] (defScope st)) (ck : chkSs { G with N := N, lam := d.lam } (defScope st) d.body (defBody st) = true) (lm : d.lam = .nil ∨ ("law" : Str) ∈ xs) (sl : d.slots = N.length)
    (bd : ∀ (kV doc pm : Value) (an : Option Addr) (cdv ct : Value) (us : List Value), us.length = 1 → bindArgs (PySem.W.fnOf "law" "law" (defArgs st) (defBody st) (defScope st) .none kV doc pm an cdv ct) ⟨us, []⟩ = pure (((["script"] : List Str)).zip us))
    (pure_ : ∀ ns : List Int, ns.length ≤ n → ∃ st', evSs (evF prog W k) W d.body (initE d.slots [.list (ns.map .int)]) [] = some (.rt (.v (.bool true)) st')) :
    ∃ (K : PySem.W.Frag) (cs : List (Addr × Addr)) (fd : FuncData) (sp : Sp), K.In h ∧ TbS K h cs ∧ (∀ (s : Shared) (u : Value), BindsTo s fd ⟨[u], []⟩ [("script", u)]) ∧
      (∀ (H : Hp) (a : Addr) (ns : List Int), ns.length ≤ n → SqL K H a (ns.map V.int) → (∀ p ∈ cs, H p.2 = some (.tbl #[])) → sp [.ref a] H (fun v _ => v = .bl true) fun _ _ _ => False) ∧ ∀ base : Heap, K.In base → base.Ns mainGlobals mg → (∀ p ∈ cs, LamX.TabB base mg p.1 p.2) → FnG P w K mg base (k + 1) f fd ["script"] sp := by
  obtain ⟨fd, F⟩ := S.says.def_ i dn
  have e := hf.symm.trans (He.glo_ok S.kin hn (S.says.fact j gl))
  cases e
  have b := FunD.bindsA (ps := ["script"]) F bd
  have o := S.ok
  unfold okX at o
  simp only [Bool.and_eq_true] at o
  refine ⟨K, csOf K xs, fd, spLaw (tOf K xs) K prog W k d, S.kin, tbS_of S.kin S.kin2 o.2.1, fun s v => b s [v] rfl, fun H a ns hl hS hT => ?_, fun base _ _ TB => ok_law (bs_of S hn L TB) F sc ck sl fun hl => ?_⟩
  · obtain ⟨st', hp⟩ := pure_ ns hl
    exact ⟨a, ns, st', rfl, hS, tabs_of hT, hp, fun _ => rfl⟩
  · obtain ⟨oc, od, dV, kV, doc, pm, an, cdv, ct, osl, rfl, lk, hcd, hD, hK⟩ := F.ex
    exact tbAt_of S.kin S.kin2 hn o.2.1 o.2.2.1 (lm.resolve_left hl) hf lk TB
end Ev

set_option Elab.async false
set_option linter.all false
set_option maxRecDepth 100000
set_option maxHeartbeats 4000000
/-! What a term is to reach: weakest conditions over the pure evaluator. -/
namespace Ev
open PySem
def wp {α : Type} (c : Option α) (Q : α → Prop) : Prop := ∃ a, c = some a ∧ Q a
section
variable {α β : Type} {Q : α → Prop}
@[simp] theorem wp_some {a : α} : wp (some a) Q ↔ Q a := ⟨fun ⟨b, e, q⟩ => (by cases e; exact q), fun q => ⟨a, rfl, q⟩⟩
@[simp] theorem wp_none : wp none Q ↔ False := ⟨fun ⟨b, e, _⟩ => (nomatch e), fun z => False.elim z⟩
theorem wp_mono {Q' : α → Prop} {c : Option α} (h : wp c Q) (i : ∀ a, Q a → Q' a) : wp c Q' := by
  obtain ⟨a, e, q⟩ := h
  exact ⟨a, e, i a q⟩
theorem wp_eq {c : Option α} {a : α} (h : c = some a) : wp c Q ↔ Q a := by rw [h]; exact wp_some
theorem wp_if {c : Prop} [Decidable c] {a : α} : wp (if c then some a else none) Q ↔ c ∧ Q a := by
  by_cases h : c
  · simp [h]
  · simp [h]
end
section
variable {F : FT} {ρ : Rho} {st : Sto} {Q : RV × Sto → Prop} {W : Nat}
theorem w_bind {α β : Type} {c : Option α} {f : α → Option β} {Q : β → Prop} {e : Option β} (h : e = c.bind f) : wp e Q ↔ wp c fun a => wp (f a) Q := by
  subst h
  cases c with
  | none => simp
  | some a => simp
@[simp] theorem wE_con {d} : wp (evE F (.con d) ρ st) Q ↔ Q (.v d, st) := by simp only [evE, wp_some]
@[simp] theorem wE_gl {x d} : wp (evE F (.gl x d) ρ st) Q ↔ Q (.v d, st) := by simp only [evE, wp_some]
@[simp] theorem wE_var {i} : wp (evE F (.var i) ρ st) Q ↔ ∃ d, ρ[i]? = some (some (.v d)) ∧ Q (.v d, st) := by
  simp only [evE]
  split
  · rename_i d h; rw [h]; simp
  · rename_i h; simp only [wp_none, false_iff, not_exists, not_and]; intro d e; exact absurd e (h d)
@[simp] theorem wE_peek {i} : wp (evE F (.peek i) ρ st) Q ↔ ∃ ds, ρ[i]? = some (some (.o ds)) ∧ Q (.v (.list ds), st) := by
  simp only [evE]
  split
  · rename_i d h; rw [h]; simp
  · rename_i h; simp only [wp_none, false_iff, not_exists, not_and]; intro d e; exact absurd e (h d)
@[simp] theorem wE_bin {o a b} : wp (evE F (.bin o a b) ρ st) Q ↔ wp (evE F a ρ st) fun p => wp (evE F b ρ p.2) fun q => wp (op2 o p.1.d q.1.d) fun z => Q (z, q.2) := by
  simp only [evE]
  cases evE F a ρ st with
  | none => simp
  | some p =>
    obtain ⟨x, st1⟩ := p
    simp only [wp_some]
    cases evE F b ρ st1 with
    | none => simp
    | some q =>
      obtain ⟨y, st2⟩ := q
      simp only [wp_some]
      cases op2 o x.d y.d <;> simp
@[simp] theorem wE_cmp {o a b} : wp (evE F (.cmp o a b) ρ st) Q ↔ wp (evE F a ρ st) fun p => wp (evE F b ρ p.2) fun q => wp (cmp2 o p.1.d q.1.d) fun z => Q (.v z, q.2) := by
  simp only [evE]
  cases evE F a ρ st with
  | none => simp
  | some p =>
    obtain ⟨x, st1⟩ := p
    simp only [wp_some]
    cases evE F b ρ st1 with
    | none => simp
    | some q =>
      obtain ⟨y, st2⟩ := q
      simp only [wp_some]
      cases cmp2 o x.d y.d <;> simp
@[simp] theorem wE_neg {a} : wp (evE F (.neg a) ρ st) Q ↔ wp (evE F a ρ st) fun p => ∃ i, p.1 = .v (.int i) ∧ Q (.v (.int (-i)), p.2) := by
  simp only [evE]
  split
  · rename_i h; rw [h]; simp
  · rename_i h
    simp only [wp_none, false_iff]
    rintro ⟨⟨x, s⟩, e, i, e2, _⟩
    cases e2
    exact h _ _ e
@[simp] theorem wE_cnt {a x} : wp (evE F (.cnt a x) ρ st) Q ↔ wp (evE F a ρ st) fun p => wp (evE F x ρ p.2) fun q => wp (cnt2 p.1.d q.1.d) fun z => Q (.v z, q.2) := by
  simp only [evE]
  cases evE F a ρ st with
  | none => simp
  | some p =>
    obtain ⟨y, st1⟩ := p
    simp only [wp_some]
    cases evE F x ρ st1 with
    | none => simp
    | some q =>
      obtain ⟨z, st2⟩ := q
      simp only [wp_some]
      cases cnt2 y.d z.d <;> simp
@[simp] theorem wE_idx {a x} : wp (evE F (.idx a x) ρ st) Q ↔ wp (evE F a ρ st) fun p => wp (evE F x ρ p.2) fun q => wp (idx2 p.1.d q.1.d) fun z => Q (.v z, q.2) := by
  simp only [evE]
  cases evE F a ρ st with
  | none => simp
  | some p =>
    obtain ⟨y, st1⟩ := p
    simp only [wp_some]
    cases evE F x ρ st1 with
    | none => simp
    | some q =>
      obtain ⟨z, st2⟩ := q
      simp only [wp_some]
      cases idx2 y.d z.d <;> simp
@[simp] theorem wE_dget {a b c} : wp (evE F (.dget a b c) ρ st) Q ↔ wp (evE F a ρ st) fun p => wp (evE F b ρ p.2) fun q => wp (evE F c ρ q.2) fun r => wp (dget3 p.1.d q.1.d r.1.d) fun z => Q (.v z, r.2) := by
  simp only [evE]
  cases evE F a ρ st with
  | none => simp
  | some p =>
    obtain ⟨y, st1⟩ := p
    simp only [wp_some]
    cases evE F b ρ st1 with
    | none => simp
    | some q =>
      obtain ⟨z, st2⟩ := q
      simp only [wp_some]
      cases evE F c ρ st2 with
      | none => simp
      | some r =>
        obtain ⟨u, st3⟩ := r
        simp only [wp_some]
        cases dget3 y.d z.d u.d <;> simp
@[simp] theorem wE_dlitI {is es} : wp (evE F (.dlitI is es) ρ st) Q ↔ wp (keysAt ρ is) fun ks => wp (evEs F es ρ st) fun p => (ks ≠ [] ∧ ks.length = p.1.length ∧ ks.Nodup ∧ ks.length ≤ 15) ∧ Q (.v (dOf ks p.1), p.2) := by
  simp only [evE]
  cases keysAt ρ is with
  | none => simp
  | some ks =>
    simp only [wp_some]
    cases evEs F es ρ st with
    | none => simp
    | some p =>
      obtain ⟨y, st1⟩ := p
      simp only [wp_some]
      by_cases h : ks ≠ [] ∧ ks.length = y.length ∧ ks.Nodup ∧ ks.length ≤ 15
      · rw [if_pos h, wp_some]
        exact ⟨fun q => ⟨h, q⟩, fun q => q.2⟩
      · rw [if_neg h, wp_none]
        exact ⟨False.elim, fun q => h q.1⟩
@[simp] theorem wE_sset {a} : wp (evE F (.sset a) ρ st) Q ↔ wp (evE F a ρ st) fun p => wp (sset1 p.1.d) fun z => Q (.o z, p.2) := by
  simp only [evE]
  cases evE F a ρ st with
  | none => simp
  | some p =>
    obtain ⟨y, st1⟩ := p
    simp only [wp_some]
    cases sset1 y.d <;> simp
@[simp] theorem wE_dlit {ks es} : wp (evE F (.dlit ks es) ρ st) Q ↔ wp (evEs F es ρ st) fun p => (ks.length = p.1.length ∧ ks.Nodup ∧ ks.length ≤ 15) ∧ Q (.v (dOf (ks.map .inr) p.1), p.2) := by
  simp only [evE]
  cases evEs F es ρ st with
  | none => simp
  | some p =>
    obtain ⟨y, st1⟩ := p
    simp only [wp_some]
    by_cases h : ks.length = y.length ∧ ks.Nodup ∧ ks.length ≤ 15
    · rw [if_pos h, wp_some]
      exact ⟨fun q => ⟨h, q⟩, fun q => q.2⟩
    · rw [if_neg h, wp_none]
      exact ⟨False.elim, fun q => h q.1⟩
@[simp] theorem wE_one {a} : wp (evE F (.one a) ρ st) Q ↔ wp (evE F a ρ st) Q := by simp only [evE]
@[simp] theorem wE_not {a} : wp (evE F (.not a) ρ st) Q ↔ wp (evE F a ρ st) fun p => wp (truth p.1.d) fun b => Q (.v (.bool (!b)), p.2) := by
  simp only [evE]
  cases evE F a ρ st with
  | none => simp
  | some p =>
    obtain ⟨x, st1⟩ := p
    simp only [wp_some]
    cases truth x.d <;> simp
@[simp] theorem wE_and {a b} : wp (evE F (.and a b) ρ st) Q ↔ wp (evE F a ρ st) fun p => wp (truth p.1.d) fun t => if t = true then wp (evE F b ρ p.2) Q else Q p := by
  simp only [evE]
  cases evE F a ρ st with
  | none => simp
  | some p =>
    obtain ⟨x, st1⟩ := p
    simp only [wp_some]
    cases truth x.d with
    | none => simp
    | some t => cases t <;> simp
@[simp] theorem wE_or {a b} : wp (evE F (.or a b) ρ st) Q ↔ wp (evE F a ρ st) fun p => wp (truth p.1.d) fun t => if t = true then Q p else wp (evE F b ρ p.2) Q := by
  simp only [evE]
  cases evE F a ρ st with
  | none => simp
  | some p =>
    obtain ⟨x, st1⟩ := p
    simp only [wp_some]
    cases truth x.d with
    | none => simp
    | some t => cases t <;> simp
@[simp] theorem wE_ite {c a b} : wp (evE F (.ite c a b) ρ st) Q ↔ wp (evE F c ρ st) fun p => wp (truth p.1.d) fun t => if t = true then wp (evE F a ρ p.2) Q else wp (evE F b ρ p.2) Q := by
  simp only [evE]
  cases evE F c ρ st with
  | none => simp
  | some p =>
    obtain ⟨x, st1⟩ := p
    simp only [wp_some]
    cases truth x.d with
    | none => simp
    | some t => cases t <;> simp
theorem cmp2_b {o : Cm} {d e z : D} (h : cmp2 o d e = some z) : ∃ b, z = .bool b := by
  unfold cmp2 at h
  split at h
  all_goals first
    | (cases h; done)
    | (split at h <;> cases h <;> exact ⟨_, rfl⟩)
    | (cases h; exact ⟨_, rfl⟩)
    | (obtain ⟨b, _, rfl⟩ := Option.map_eq_some_iff.mp h; exact ⟨_, rfl⟩)
@[simp] theorem wE_chain {o o' a b c} : wp (evE F (.chain o o' a b c) ρ st) Q ↔ wp (evE F a ρ st) fun p => wp (evE F b ρ p.2) fun q => wp (cmp2 o p.1.d q.1.d) fun t => wp (truth t) fun k => if k = true then wp (evE F c ρ q.2) fun r => wp (cmp2 o' q.1.d r.1.d) fun z => Q (.v z, r.2) else Q (.v (.bool false), q.2) := by
  simp only [evE]
  cases evE F a ρ st with
  | none => simp
  | some p =>
    obtain ⟨x, st1⟩ := p
    simp only [wp_some]
    cases evE F b ρ st1 with
    | none => simp
    | some q =>
      obtain ⟨y, st2⟩ := q
      simp only [wp_some]
      cases h : cmp2 o x.d y.d with
      | none => simp
      | some t =>
        obtain ⟨k, rfl⟩ := cmp2_b h
        simp only [wp_some, truth]
        cases k with
        | false => simp
        | true =>
          simp only [if_true]
          cases evE F c ρ st2 with
          | none => simp
          | some r =>
            obtain ⟨z, st3⟩ := r
            simp only [wp_some]
            cases cmp2 o' y.d z.d <;> simp
@[simp] theorem wE_sub {a i} : wp (evE F (.sub a i) ρ st) Q ↔ wp (evE F a ρ st) fun p => wp (evE F i ρ p.2) fun q => wp (sub2 (look q.2 p.1.d) q.1.d) fun z => Q (.v z, q.2) := by
  simp only [evE]
  cases evE F a ρ st with
  | none => simp
  | some p =>
    obtain ⟨x, st1⟩ := p
    simp only [wp_some]
    cases evE F i ρ st1 with
    | none => simp
    | some q =>
      obtain ⟨y, st2⟩ := q
      simp only [wp_some]
      cases sub2 (look st2 x.d) y.d <;> simp
@[simp] theorem wE_sl {a lo hi} : wp (evE F (.sl a lo hi) ρ st) Q ↔ wp (evE F a ρ st) fun p => wp (evO F lo ρ p.2) fun l => wp (evO F hi ρ l.2) fun h => wp (sl3 p.1.d l.1 h.1) fun z => Q (z, h.2) := by
  simp only [evE]
  cases evE F a ρ st with
  | none => simp
  | some p =>
    obtain ⟨x, st1⟩ := p
    simp only [wp_some]
    cases evO F lo ρ st1 with
    | none => simp
    | some q =>
      obtain ⟨y, st2⟩ := q
      simp only [wp_some]
      cases evO F hi ρ st2 with
      | none => simp
      | some r =>
        obtain ⟨z, st3⟩ := r
        simp only [wp_some]
        cases sl3 x.d y z <;> simp
@[simp] theorem wO_none {Q : Option D × Sto → Prop} : wp (evO F .none ρ st) Q ↔ Q (none, st) := by simp only [evO, wp_some]
@[simp] theorem wO_some {a} {Q : Option D × Sto → Prop} : wp (evO F (.some a) ρ st) Q ↔ wp (evE F a ρ st) fun p => Q (some p.1.d, p.2) := by
  simp only [evO]
  cases evE F a ρ st with
  | none => simp
  | some p => obtain ⟨x, st1⟩ := p; simp
@[simp] theorem wE_rev {a} : wp (evE F (.rev a) ρ st) Q ↔ wp (evE F a ρ st) fun p => wp (rev1 p.1.d) fun z => Q (z, p.2) := by
  simp only [evE]
  cases evE F a ρ st with
  | none => simp
  | some p =>
    obtain ⟨x, st1⟩ := p
    simp only [wp_some]
    cases rev1 x.d <;> simp
@[simp] theorem wE_tup {es} : wp (evE F (.tup es) ρ st) Q ↔ wp (evEs F es ρ st) fun p => p.1.length ≤ maxLen ∧ Q (.v (.tuple p.1), p.2) := by
  simp only [evE]
  cases evEs F es ρ st with
  | none => simp
  | some p =>
    obtain ⟨x, st1⟩ := p
    simp only [wp_some]
    by_cases h : x.length ≤ maxLen <;> simp [h]
@[simp] theorem wE_lst {es} : wp (evE F (.lst es) ρ st) Q ↔ wp (evEs F es ρ st) fun p => p.1.length ≤ maxLen ∧ Q (.o p.1, p.2) := by
  simp only [evE]
  cases evEs F es ρ st with
  | none => simp
  | some p =>
    obtain ⟨x, st1⟩ := p
    simp only [wp_some]
    by_cases h : x.length ≤ maxLen <;> simp [h]
@[simp] theorem wE_call {f es} : wp (evE F (.call f es) ρ st) Q ↔ wp (evEs F es ρ st) fun p => wp (F f p.1 p.2) Q := by
  simp only [evE]
  cases evEs F es ρ st with
  | none => simp
  | some p => obtain ⟨x, st1⟩ := p; simp
@[simp] theorem wE_callk {f es perm} : wp (evE F (.callk f es perm) ρ st) Q ↔ wp (evEs F es ρ st) fun p => wp (F f (permD p.1 perm) p.2) Q := by
  simp only [evE]
  cases evEs F es ρ st with
  | none => simp
  | some p => obtain ⟨x, st1⟩ := p; simp
@[simp] theorem wE_blt {b es} : wp (evE F (.blt b es) ρ st) Q ↔ wp (evEs F es ρ st) fun p => wp (blt b p.1) fun z => Q (z, p.2) := by
  simp only [evE]
  cases evEs F es ρ st with
  | none => simp
  | some p =>
    obtain ⟨x, st1⟩ := p
    simp only [wp_some]
    cases blt b x <;> simp
@[simp] theorem wE_isi {t a} : wp (evE F (.isi t a) ρ st) Q ↔ wp (evE F a ρ st) fun p => wp (isi t p.1.d) fun b => Q (.v (.bool b), p.2) := by
  simp only [evE]
  cases evE F a ρ st with
  | none => simp
  | some p =>
    obtain ⟨x, st1⟩ := p
    simp only [wp_some]
    cases isi t x.d <;> simp
@[simp] theorem wE_lrng {es} : wp (evE F (.lrng es) ρ st) Q ↔ wp (evEs F es ρ st) fun p => wp (rangeOf p.1) fun z => Q (.o z, p.2) := by
  simp only [evE]
  cases evEs F es ρ st with
  | none => simp
  | some p =>
    obtain ⟨x, st1⟩ := p
    simp only [wp_some]
    cases rangeOf x <;> simp
@[simp] theorem wE_trng {es} : wp (evE F (.trng es) ρ st) Q ↔ wp (evEs F es ρ st) fun p => wp (rangeOf p.1) fun z => Q (.v (.tuple z), p.2) := by
  simp only [evE]
  cases evEs F es ρ st with
  | none => simp
  | some p =>
    obtain ⟨x, st1⟩ := p
    simp only [wp_some]
    cases rangeOf x <;> simp
/-- one item of a comprehension -/
def itemF (F : FT) (own : List Nat) (tg : Tg) (ifs : CEs) (elt : CE) (ρ : Rho) : D → Sto → Option (List D × Sto) := fun d st => match bindTg tg d (wipeE ρ own) with
  | some ρ1 => match evIfs F ifs ρ1 st with
    | some (true, st2) => match evE F elt ρ1 st2 with
      | some (y, st3) => some ([y.d], st3)
      | none => none
    | some (false, st2) => some ([], st2)
    | none => none
  | none => none
@[simp] theorem w_item {own tg ifs elt d} {Q : List D × Sto → Prop} : wp (itemF F own tg ifs elt ρ d st) Q ↔ wp (bindTg tg d (wipeE ρ own)) fun ρ1 => wp (evIfs F ifs ρ1 st) fun t => if t.1 = true then wp (evE F elt ρ1 t.2) fun y => Q ([y.1.d], y.2) else Q ([], t.2) := by
  unfold itemF
  cases bindTg tg d (wipeE ρ own) with
  | none => simp
  | some ρ1 =>
    simp only [wp_some]
    cases evIfs F ifs ρ1 st with
    | none => simp
    | some t =>
      obtain ⟨b, st2⟩ := t
      cases b with
      | false => simp
      | true =>
        simp only [wp_some, if_true]
        cases evE F elt ρ1 st2 with
        | none => simp
        | some y => obtain ⟨y, st3⟩ := y; simp
def itemF2 (F : FT) (own : List Nat) (tg : Tg) (ifs : CEs) (tg1 : Tg) (it1 : CI) (ifs1 : CEs) (elt : CE) (ρ : Rho) : D → Sto → Option (List D × Sto) := fun d st => match bindTg tg d (wipeE (hideO ρ) own) with
  | some ρ1 => match evIfs F ifs ρ1 st with
    | some (true, st2) => match evI F it1 ρ1 st2 with
      | some (es, st3) => mapM (itemF F (slotsOf tg1) tg1 ifs1 elt ρ1) es st3
      | none => none
    | some (false, st2) => some ([], st2)
    | none => none
  | none => none
@[simp] theorem w_item2 {own tg ifs tg1 it1 ifs1 elt d} {Q : List D × Sto → Prop} : wp (itemF2 F own tg ifs tg1 it1 ifs1 elt ρ d st) Q ↔ wp (bindTg tg d (wipeE (hideO ρ) own)) fun ρ1 => wp (evIfs F ifs ρ1 st) fun t => if t.1 = true then wp (evI F it1 ρ1 t.2) fun y => wp (mapM (itemF F (slotsOf tg1) tg1 ifs1 elt ρ1) y.1 y.2) Q else Q ([], t.2) := by
  unfold itemF2
  cases bindTg tg d (wipeE (hideO ρ) own) with
  | none => simp
  | some ρ1 =>
    simp only [wp_some]
    cases evIfs F ifs ρ1 st with
    | none => simp
    | some t =>
      obtain ⟨b, st2⟩ := t
      cases b with
      | false => simp
      | true =>
        simp only [wp_some, if_true]
        cases evI F it1 ρ1 st2 with
        | none => simp
        | some y => obtain ⟨y, st3⟩ := y; simp
@[simp] theorem wE_comp2 {own tg it ifs tg1 it1 ifs1 elt} : wp (evE F (.comp2 own tg it ifs tg1 it1 ifs1 elt) ρ st) Q ↔ wp (evI F it ρ st) fun p => wp (mapM (itemF2 F own tg ifs tg1 it1 ifs1 elt ρ) p.1 p.2) fun q => q.1.length ≤ maxLen ∧ Q (.o q.1, q.2) := by
  simp only [evE]
  cases evI F it ρ st with
  | none => simp
  | some p =>
    obtain ⟨x, st1⟩ := p
    simp only [wp_some]
    show wp (match mapM (itemF2 F own tg ifs tg1 it1 ifs1 elt ρ) x st1 with
      | some (ys, st2) => if ys.length ≤ maxLen then some (RV.o ys, st2) else none
      | none => none) Q ↔ _
    cases mapM (itemF2 F own tg ifs tg1 it1 ifs1 elt ρ) x st1 with
    | none => simp
    | some q =>
      obtain ⟨ys, st2⟩ := q
      by_cases h : ys.length ≤ maxLen <;> simp [h]
@[simp] theorem wE_comp {own tg it ifs elt} : wp (evE F (.comp own tg it ifs elt) ρ st) Q ↔ wp (evI F it ρ st) fun p => wp (mapM (itemF F own tg ifs elt ρ) p.1 p.2) fun q => q.1.length ≤ maxLen ∧ Q (.o q.1, q.2) := by
  simp only [evE]
  cases evI F it ρ st with
  | none => simp
  | some p =>
    obtain ⟨x, st1⟩ := p
    simp only [wp_some]
    show wp (match mapM (itemF F own tg ifs elt ρ) x st1 with
      | some (ys, st2) => if ys.length ≤ maxLen then some (RV.o ys, st2) else none
      | none => none) Q ↔ _
    cases mapM (itemF F own tg ifs elt ρ) x st1 with
    | none => simp
    | some q =>
      obtain ⟨ys, st2⟩ := q
      simp only [wp_some]
      by_cases h : ys.length ≤ maxLen <;> simp [h]
@[simp] theorem wEs_nil {Q : List D × Sto → Prop} : wp (evEs F .nil ρ st) Q ↔ Q ([], st) := by simp only [evEs, wp_some]
@[simp] theorem wEs_cons {e r} {Q : List D × Sto → Prop} : wp (evEs F (.cons false e r) ρ st) Q ↔ wp (evE F e ρ st) fun p => wp (evEs F r ρ p.2) fun q => Q (p.1.d :: q.1, q.2) := by
  simp only [evEs]
  cases evE F e ρ st with
  | none => simp
  | some p =>
    obtain ⟨x, st1⟩ := p
    simp only [wp_some]
    cases evEs F r ρ st1 with
    | none => simp
    | some q => obtain ⟨y, st2⟩ := q; simp
/-- the items of a starred value -/
def itemsOf : D → Option (List D)
  | .tuple xs => some xs
  | .list xs => some xs
  | _ => none
@[simp] theorem wEs_star {e r} {Q : List D × Sto → Prop} : wp (evEs F (.cons true e r) ρ st) Q ↔ wp (evE F e ρ st) fun p => wp (evEs F r ρ p.2) fun q => wp (itemsOf p.1.d) fun xs => Q (xs ++ q.1, q.2) := by
  simp only [evEs]
  cases evE F e ρ st with
  | none => simp
  | some p =>
    obtain ⟨x, st1⟩ := p
    simp only [wp_some]
    cases evEs F r ρ st1 with
    | none => simp
    | some q =>
      obtain ⟨y, st2⟩ := q
      simp only [wp_some]
      cases x.d <;> simp [itemsOf]
@[simp] theorem wIf_nil {Q : Bool × Sto → Prop} : wp (evIfs F .nil ρ st) Q ↔ Q (true, st) := by simp only [evIfs, wp_some]
@[simp] theorem wIf_cons {s e r} {Q : Bool × Sto → Prop} : wp (evIfs F (.cons s e r) ρ st) Q ↔ wp (evE F e ρ st) fun p => wp (truth p.1.d) fun t => if t = true then wp (evIfs F r ρ p.2) Q else Q (false, p.2) := by
  simp only [evIfs]
  cases evE F e ρ st with
  | none => simp
  | some p =>
    obtain ⟨x, st1⟩ := p
    simp only [wp_some]
    cases truth x.d with
    | none => simp
    | some t => cases t <;> simp
@[simp] theorem wI_seq {e} {Q : List D × Sto → Prop} : wp (evI F (.seq e) ρ st) Q ↔ wp (evE F e ρ st) fun p => wp (itemsOf p.1.d) fun xs => Q (xs, p.2) := by
  simp only [evI]
  cases evE F e ρ st with
  | none => simp
  | some p =>
    obtain ⟨x, st1⟩ := p
    simp only [wp_some]
    cases x.d <;> simp [itemsOf]
@[simp] theorem wI_rng {es} {Q : List D × Sto → Prop} : wp (evI F (.rng es) ρ st) Q ↔ wp (evEs F es ρ st) fun p => wp (rangeOf p.1) fun xs => Q (xs, p.2) := by
  simp only [evI]
  cases evEs F es ρ st with
  | none => simp
  | some p =>
    obtain ⟨x, st1⟩ := p
    simp only [wp_some]
    cases rangeOf x <;> simp
def enumOf (ds : List D) : List D := ds.zipIdx.map (fun p => .tuple [.int (p.2 : Nat), p.1])
def zipOf (a b : D) : Option (List D) := match a, b with
  | .tuple xs, .tuple ys => some ((xs.zip ys).map (fun p => .tuple [p.1, p.2]))
  | .list xs, .list ys => some ((xs.zip ys).map (fun p => .tuple [p.1, p.2]))
  | _, _ => none
@[simp] theorem wI_zip {a b} {Q : List D × Sto → Prop} : wp (evI F (.zip a b) ρ st) Q ↔ wp (evE F a ρ st) fun p => wp (evE F b ρ p.2) fun q => wp (zipOf p.1.d q.1.d) fun z => Q (z, q.2) := by
  simp only [evI]
  cases evE F a ρ st with
  | none => simp
  | some p =>
    obtain ⟨x, st1⟩ := p
    simp only [wp_some]
    cases evE F b ρ st1 with
    | none => simp
    | some q =>
      obtain ⟨y, st2⟩ := q
      simp only [wp_some]
      unfold zipOf
      cases hx : x.d <;> cases hy : y.d <;> simp
@[simp] theorem wI_enum {e} {Q : List D × Sto → Prop} : wp (evI F (.enum e) ρ st) Q ↔ wp (evE F e ρ st) fun p => wp (itemsOf p.1.d) fun xs => Q (enumOf xs, p.2) := by
  simp only [evI]
  cases evE F e ρ st with
  | none => simp
  | some p =>
    obtain ⟨x, st1⟩ := p
    simp only [wp_some]
    cases x.d <;> simp [itemsOf, enumOf]
end
/-! ### statements -/
section
variable {F : FT} {ρ : Rho} {st : Sto} {Q : Fl → Prop} {W : Nat}
@[simp] theorem wS_expr {e} : wp (evS F W (.expr e) ρ st) Q ↔ wp (evE F e ρ st) fun p => Q (.nx ρ p.2) := by
  simp only [evS]
  cases evE F e ρ st with
  | none => simp
  | some p => obtain ⟨x, st1⟩ := p; simp
@[simp] theorem wS_asg {t e} : wp (evS F W (.asg t e) ρ st) Q ↔ wp (evE F e ρ st) fun p => wp (bindTg t p.1.d ρ) fun ρ1 => Q (.nx ρ1 p.2) := by
  simp only [evS]
  cases evE F e ρ st with
  | none => simp
  | some p =>
    obtain ⟨x, st1⟩ := p
    simp only [wp_some]
    cases bindTg t x.d ρ <;> simp
@[simp] theorem wS_asgO {i e} : wp (evS F W (.asgO i e) ρ st) Q ↔ wp (evE F e ρ st) fun p => ∃ ds, p.1 = .o ds ∧ Q (.nx (ρ.set i (some (.o ds))) p.2) := by
  simp only [evS]
  cases evE F e ρ st with
  | none => simp
  | some p =>
    obtain ⟨x, st1⟩ := p
    cases x <;> simp
@[simp] theorem wS_par {is es} : wp (evS F W (.par is es) ρ st) Q ↔ wp (evPar F is es ρ ρ st) fun p => Q (.nx p.1 p.2) := by
  simp only [evS]
  cases evPar F is es ρ ρ st with
  | none => simp
  | some p => obtain ⟨x, st1⟩ := p; simp
@[simp] theorem wPar_nil {ρ1 : Rho} {Q : Rho × Sto → Prop} : wp (evPar F [] .nil ρ ρ1 st) Q ↔ Q (ρ1, st) := by simp only [evPar, wp_some]
@[simp] theorem wPar_v {ρ1 : Rho} {i is e r} {Q : Rho × Sto → Prop} : wp (evPar F ((i, false) :: is) (.cons false e r) ρ ρ1 st) Q ↔ wp (evE F e ρ st) fun p => wp (evPar F is r ρ (ρ1.set i (some (.v p.1.d))) p.2) Q := by
  simp only [evPar]
  cases evE F e ρ st with
  | none => simp
  | some p => obtain ⟨x, st1⟩ := p; simp
@[simp] theorem wPar_o {ρ1 : Rho} {i is e r} {Q : Rho × Sto → Prop} : wp (evPar F ((i, true) :: is) (.cons false e r) ρ ρ1 st) Q ↔ wp (evE F e ρ st) fun p => ∃ ds, p.1 = .o ds ∧ wp (evPar F is r ρ (ρ1.set i (some (.o ds))) p.2) Q := by
  simp only [evPar]
  cases evE F e ρ st with
  | none => simp
  | some p =>
    obtain ⟨x, st1⟩ := p
    cases x <;> simp
@[simp] theorem wS_ret {e} : wp (evS F W (.ret e) ρ st) Q ↔ wp (evE F e ρ st) fun p => Q (.rt p.1 p.2) := by
  simp only [evS]
  cases evE F e ρ st with
  | none => simp
  | some p => obtain ⟨x, st1⟩ := p; simp
@[simp] theorem wS_retO {i} : wp (evS F W (.retO i) ρ st) Q ↔ ∃ ds, ρ[i]? = some (some (.o ds)) ∧ Q (.rt (.o ds) st) := by
  simp only [evS]
  split
  · rename_i d h; rw [h]; simp
  · rename_i h; simp only [wp_none, false_iff, not_exists, not_and]; intro d e; exact absurd e (h d)
@[simp] theorem wS_ite {c a b} : wp (evS F W (.ite c a b) ρ st) Q ↔ wp (evE F c ρ st) fun p => wp (truth p.1.d) fun t => if t = true then wp (evSs F W a ρ p.2) Q else wp (evSs F W b ρ p.2) Q := by
  simp only [evS]
  cases evE F c ρ st with
  | none => simp
  | some p =>
    obtain ⟨x, st1⟩ := p
    simp only [wp_some]
    cases truth x.d with
    | none => simp
    | some t => cases t <;> simp
/-- a turn of a loop -/
def turnF (F : FT) (W : Nat) (t : Tg) (b : CSs) : D → Rho → Sto → Option Fl := fun d ρ st => match bindTg t d ρ with
  | some ρ1 => evSs F W b ρ1 st
  | none => none
@[simp] theorem w_turn {t b d} : wp (turnF F W t b d ρ st) Q ↔ wp (bindTg t d ρ) fun ρ1 => wp (evSs F W b ρ1 st) Q := by
  unfold turnF
  cases bindTg t d ρ <;> simp
@[simp] theorem wS_for {t it b} : wp (evS F W (.for_ t it b) ρ st) Q ↔ wp (evI F it ρ st) fun p => wp (loop (turnF F W t b) p.1 ρ p.2) Q := by
  simp only [evS]
  cases evI F it ρ st with
  | none => simp
  | some p =>
    obtain ⟨x, st1⟩ := p
    simp only [wp_some]
    exact Iff.rfl
@[simp] theorem wS_app {i e} : wp (evS F W (.app i e) ρ st) Q ↔ wp (evE F e ρ st) fun p => ∃ ds, ρ[i]? = some (some (.o ds)) ∧ ds.length < maxLen ∧ Q (.nx (ρ.set i (some (.o (ds ++ [p.1.d])))) p.2) := by
  simp only [evS]
  cases evE F e ρ st with
  | none => simp
  | some p =>
    obtain ⟨x, st1⟩ := p
    simp only [wp_some]
    split
    · rename_i ds h
      rw [h]
      by_cases hl : ds.length < maxLen <;> simp [hl]
    · rename_i h; simp only [wp_none, false_iff, not_exists, not_and]; intro d e; exact absurd e (h d)
@[simp] theorem wS_ext {i e} : wp (evS F W (.ext i e) ρ st) Q ↔ wp (evE F e ρ st) fun p => ∃ xs ds, p.1 = .o xs ∧ ρ[i]? = some (some (.o ds)) ∧ ds.length + xs.length ≤ maxLen ∧ Q (.nx (ρ.set i (some (.o (ds ++ xs)))) p.2) := by
  simp only [evS]
  cases evE F e ρ st with
  | none => simp
  | some p =>
    obtain ⟨x, st1⟩ := p
    cases x with
    | v d => simp
    | o xs =>
      simp only [wp_some]
      split
      · rename_i ds h
        rw [h]
        by_cases hl : ds.length + xs.length ≤ maxLen <;> simp [hl]
      · rename_i h
        simp only [wp_none, false_iff]
        rintro ⟨ys, ds, e1, e2, _⟩
        exact h _ e2
@[simp] theorem wS_appPop {t i e} {Q : Fl → Prop} : wp (evS F W (.appPop t i e) ρ st) Q ↔ wp (evE F e ρ st) fun p => ∃ n ds us j d, p.1 = .v (.int n) ∧ ρ[i]? = some (some (.o ds)) ∧ ρ[t]? = some (some (.o us)) ∧ L2.ixN ds.length n = some j ∧ (ds.length ≤ maxLen ∧ us.length < maxLen ∧ t ≠ i) ∧ ds[j]? = some d ∧ Q (.nx ((ρ.set i (some (.o (ds.eraseIdx j)))).set t (some (.o (us ++ [d])))) p.2) := by
  simp only [evS]
  split
  · rename_i n st1 h
    rw [h]
    simp only [wp_some]
    split
    · rename_i ds us h1 h2
      split
      · rename_i j hj
        split
        · rename_i hc
          split
          · rename_i d hd
            simp only [wp_some]
            constructor
            · exact fun q => ⟨n, ds, us, j, d, rfl, h1, h2, hj, hc, hd, q⟩
            · rintro ⟨n', ds', us', j', d', e0, e1, e2, e3, e4, e5, q⟩
              cases e0
              rw [h1] at e1; cases e1
              rw [h2] at e2; cases e2
              rw [hj] at e3; cases e3
              rw [hd] at e5; cases e5
              exact q
          · rename_i hd
            simp only [wp_none, false_iff]
            rintro ⟨n', ds', us', j', d', e0, e1, e2, e3, e4, e5, q⟩
            cases e0
            rw [h1] at e1; cases e1
            rw [hj] at e3; cases e3
            rw [hd] at e5; cases e5
        · rename_i hc
          simp only [wp_none, false_iff]
          rintro ⟨n', ds', us', j', d', e0, e1, e2, e3, e4, e5, q⟩
          rw [h1] at e1; cases e1
          rw [h2] at e2; cases e2
          exact hc e4
      · rename_i hj
        simp only [wp_none, false_iff]
        rintro ⟨n', ds', us', j', d', e0, e1, e2, e3, e4, e5, q⟩
        cases e0
        rw [h1] at e1; cases e1
        rw [hj] at e3; cases e3
    · rename_i h1
      simp only [wp_none, false_iff]
      rintro ⟨n', ds', us', j', d', e0, e1, e2, e3, e4, e5, q⟩
      exact h1 _ _ e1 e2
  · rename_i h
    simp only [wp_none, false_iff]
    rintro ⟨⟨x, s⟩, e, n', ds', us', j', d', e0, _⟩
    cases e0
    exact h _ _ e
@[simp] theorem wS_popAt {i e} : wp (evS F W (.popAt i e) ρ st) Q ↔ wp (evE F e ρ st) fun p => ∃ n ds j, p.1 = .v (.int n) ∧ ρ[i]? = some (some (.o ds)) ∧ L2.ixN ds.length n = some j ∧ ds.length ≤ maxLen ∧ Q (.nx (ρ.set i (some (.o (ds.eraseIdx j)))) p.2) := by
  simp only [evS]
  cases evE F e ρ st with
  | none => simp
  | some p =>
    obtain ⟨x, st1⟩ := p
    simp only [wp_some]
    split
    · rename_i n st1' e
      cases e
      split
      · rename_i ds h
        rw [h]
        cases hj : L2.ixN ds.length n with
        | none => simp [hj]
        | some j => by_cases hl : ds.length ≤ maxLen <;> simp [hl, hj]
      · rename_i h
        simp only [wp_none, false_iff]
        rintro ⟨_, ds, j, _, e2, _⟩
        exact h _ e2
    · rename_i h
      simp only [wp_none, false_iff]
      rintro ⟨n, ds, j, e1, _⟩
      exact h n st1 (by rw [show x = _ from e1])
@[simp] theorem wS_setC {i ix e} : wp (evS F W (.setC i ix e) ρ st) Q ↔ wp (evE F e ρ st) fun p => wp (evE F ix ρ p.2) fun k => ∃ c n ds, ρ[i]? = some (some (.v c)) ∧ cellOf c = some n ∧ k.2[n]? = some ds ∧ wp (setAt ds k.1.d p.1.d) fun ds1 => Q (.nx ρ (k.2.set n ds1)) := by
  simp only [evS]
  cases evE F e ρ st with
  | none => simp
  | some p =>
    obtain ⟨x, st1⟩ := p
    simp only [wp_some]
    cases evE F ix ρ st1 with
    | none => simp
    | some k =>
      obtain ⟨k, st2⟩ := k
      simp only [wp_some]
      split
      · rename_i c h
        rw [h]
        cases hc : cellOf c with
        | none => simp [hc]
        | some n =>
          simp only
          cases hd : st2[n]? with
          | none => simp [hc, hd]
          | some ds =>
            cases hs : setAt ds k.d x.d <;> simp [hc, hd, hs]
      · rename_i h
        simp only [wp_none, false_iff]
        rintro ⟨c, n, ds, e1, _⟩
        exact h _ e1
@[simp] theorem wSs_nil : wp (evSs F W .nil ρ st) Q ↔ Q (.nx ρ st) := by simp only [evSs, wp_some]
/-- behind a statement -/
def seqQ (F : FT) (W : Nat) (r : CSs) (Q : Fl → Prop) : Fl → Prop
  | .nx ρ st => wp (evSs F W r ρ st) Q
  | fl => Q fl
@[simp] theorem seqQ_nx {r} : seqQ F W r Q (.nx ρ st) ↔ wp (evSs F W r ρ st) Q := Iff.rfl
@[simp] theorem seqQ_rt {r v} : seqQ F W r Q (.rt v st) ↔ Q (.rt v st) := Iff.rfl
@[simp] theorem seqQ_bk {r} : seqQ F W r Q (.bk ρ st) ↔ Q (.bk ρ st) := Iff.rfl
@[simp] theorem seqQ_ct {r} : seqQ F W r Q (.ct ρ st) ↔ Q (.ct ρ st) := Iff.rfl
@[simp] theorem wSs_cons {s r} : wp (evSs F W (.cons s r) ρ st) Q ↔ wp (evS F W s ρ st) (seqQ F W r Q) := by
  simp only [evSs]
  cases evS F W s ρ st with
  | none => simp
  | some fl => cases fl <;> simp
@[simp] theorem wS_freeze {i} : wp (evS F W (.freeze i) ρ st) Q ↔ ∃ ds, ρ[i]? = some (some (.o ds)) ∧ Q (.nx (ρ.set i (some (.v (.list ds)))) st) := by
  simp only [evS]
  split
  · rename_i d h; rw [h]; simp
  · rename_i h; simp only [wp_none, false_iff, not_exists, not_and]; intro d e; exact absurd e (h d)
@[simp] theorem wS_mkcell {i} : wp (evS F W (.mkcell i) ρ st) Q ↔ ∃ ds, ρ[i]? = some (some (.o ds)) ∧ Q (.nx (ρ.set i (some (.v (.dict [(.none, .int st.length)])))) (st ++ [ds])) := by
  simp only [evS]
  split
  · rename_i d h; rw [h]; simp
  · rename_i h; simp only [wp_none, false_iff, not_exists, not_and]; intro d e; exact absurd e (h d)
@[simp] theorem wS_bad : wp (evS F W .bad ρ st) Q ↔ False := by simp only [evS, wp_none]
@[simp] theorem wS_brk : wp (evS F W .brk ρ st) Q ↔ Q (.bk ρ st) := by simp only [evS, wp_some]
@[simp] theorem wS_cont : wp (evS F W .cont ρ st) Q ↔ Q (.ct ρ st) := by simp only [evS, wp_some]
theorem eq_of_wp {α : Type} {c : Option α} {a : α} (h : wp c fun x => x = a) : c = some a := by
  obtain ⟨b, e, rfl⟩ := h
  exact e
/-- a loop by its invariant -/
theorem wp_loop {f : D → Rho → Sto → Option Fl} {ds : List D} (I : Nat → Rho → Sto → Prop) (h0 : I 0 ρ st)
    (hs : ∀ i d ρ st, ds[i]? = some d → I i ρ st → wp (f d ρ st) fun fl => match fl with
      | .nx ρ' st' => I (i + 1) ρ' st'
      | .ct ρ' st' => I (i + 1) ρ' st'
      | .bk ρ' st' => Q (.nx ρ' st')
      | .rt v st' => Q (.rt v st')) (hd : ∀ ρ st, I ds.length ρ st → Q (.nx ρ st)) : wp (loop f ds ρ st) Q := by
  have key : ∀ (n i : Nat) (ρ : Rho) (st : Sto), n = ds.length - i → i ≤ ds.length → I i ρ st → wp (loop f (ds.drop i) ρ st) Q := by
    intro n
    induction n with
    | zero =>
      intro i ρ st hn hi h
      have : i = ds.length := by omega
      subst this
      rw [List.drop_length]
      simp only [loop, wp_some]
      exact hd ρ st h
    | succ n ih =>
      intro i ρ st hn hi h
      have hlt : i < ds.length := by omega
      obtain ⟨fl, e, q⟩ := hs i ds[i] ρ st (List.getElem?_eq_getElem hlt) h
      rw [List.drop_eq_getElem_cons hlt]
      simp only [loop, e]
      cases fl with
      | nx ρ' st' => exact ih (i + 1) ρ' st' (by omega) hlt q
      | ct ρ' st' => exact ih (i + 1) ρ' st' (by omega) hlt q
      | bk ρ' st' => exact wp_some.mpr q
      | rt v st' => exact wp_some.mpr q
  have := key ds.length 0 ρ st (by omega) (Nat.zero_le _) h0
  simpa using this
/-- a comprehension that leaves the store -/
theorem mapM_pure {f : D → Sto → Option (List D × Sto)} {g : D → List D} : ∀ {ds : List D}, (∀ d ∈ ds, f d st = some (g d, st)) → mapM f ds st = some ((ds.map g).flatten, st)
  | [], _ => rfl
  | d :: r, h => by
    simp only [mapM, h d (List.mem_cons_self ..), mapM_pure (ds := r) fun x hx => h x (List.mem_cons_of_mem _ hx)]
    simp
theorem wp_mapM {f : D → Sto → Option (List D × Sto)} {Q : List D × Sto → Prop} (I : List D → List D → Sto → Prop) : ∀ {ds pre out : List D} {st : Sto}, I pre out st →
    (∀ pre d out st, I pre out st → wp (f d st) fun p => I (pre ++ [d]) (out ++ p.1) p.2) → (∀ out' st', I (pre ++ ds) (out ++ out') st' → Q (out', st')) → wp (mapM f ds st) Q
  | [], pre, out, st, h, _, hq => by
    simp only [mapM, wp_some]
    exact hq [] st (by simpa using h)
  | d :: r, pre, out, st, h, hs, hq => by
    obtain ⟨⟨ys, st1⟩, e, h1⟩ := hs pre d out st h
    simp only [mapM, e]
    have := wp_mapM (Q := fun p => Q (ys ++ p.1, p.2)) I (ds := r) (pre := pre ++ [d]) (out := out ++ ys) (st := st1) h1 hs (fun out' st' h' => hq (ys ++ out') st' (by simpa using h'))
    obtain ⟨⟨zs, st2⟩, e2, q⟩ := this
    rw [e2]
    exact wp_some.mpr q
end
/-- a call's value -/
theorem w_fn {P : Nat → Option FD} {W k f : Nat} {ds : List D} {st : Sto} {Q : RV × Sto → Prop} {d : FD} (hd : P f = some d) (hl : ds.length = d.par) (hlam : d.lam = .nil := by rfl)
    (h : wp (evSs (evF P W k) W d.body (initE d.slots ds) st) fun fl => match fl with
      | .nx _ st1 => st1.length = st.length ∧ Q (.v .none, st1)
      | .rt r st1 => st1.length = st.length ∧ Q (r, st1)
      | _ => False) : wp (evF P W (k + 1) f ds st) Q := by
  obtain ⟨fl, e, q⟩ := h
  simp only [evF, hd, hl, if_true, e, hlam, finL]
  cases fl with
  | nx ρ st1 => simp only [q.1, if_true, wp_some]; exact q.2
  | rt r st1 => simp only [q.1, if_true, wp_some]; exact q.2
  | bk => exact q.elim
  | ct => exact q.elim
/-- .. of a def that makes closures -/
theorem w_fnL {P : Nat → Option FD} {W k f : Nat} {ds : List D} {st : Sto} {Q : RV × Sto → Prop} {d : FD} (hd : P f = some d) (hl : ds.length = d.par) (hn : d.lam ≠ .nil) (h1 : ds.all pcl = true) (h2 : st.all purs = true)
    (h : wp (evSs (evF P W k) W d.body (initE d.slots ds) st) fun fl => match fl with
      | .nx _ st1 => st1.length = st.length ∧ st1.all purs = true ∧ Q (.v .none, st1)
      | .rt r st1 => st1.length = st.length ∧ pur r.d = true ∧ st1.all purs = true ∧ Q (r, st1)
      | _ => False) : wp (evF P W (k + 1) f ds st) Q := by
  obtain ⟨fl, e, q⟩ := h
  cases hL : d.lam with
  | nil => exact absurd hL hn
  | cons n g es l =>
    simp only [evF, hd, hl, if_true, e, hL, finL, h1, h2, Bool.and_self]
    cases fl with
    | nx ρ st1 => simp only [q.1, if_true, q.2.1, pur, Bool.and_self, RV.d, wp_some]; exact q.2.2
    | rt r st1 => simp only [q.1, if_true, q.2.1, q.2.2.1, Bool.and_self, wp_some]; exact q.2.2.2
    | bk => exact q.elim
    | ct => exact q.elim
section
variable {P : Nat → Option FD} {W k : Nat}
theorem evF_up {f n : Nat} (h : P (f + n * B0) = none) (hf : f < B0) {ds : List D} {st : Sto} (m : Nat) (hn : n = m + 3) : evF P W (k + 1) (f + n * B0) ds st = evF P W k (f + (n - 1) * B0) ds st := by
  subst hn
  rw [evF_b3 h (b0_div hf), sub_b (n := m + 2)]
  rfl
/-- a closure's outcome: what its def returns -/
theorem evF_val {f : Nat} {ds : List D} {st st' : Sto} {r : RV} (hb : ∀ f, B0 ≤ f → P f = none) (hf : f < B0) (h : evF P W k f ds [] = some (r, st')) : evF P W (k + 4) (f + 5 * B0) ds st = some (.v (ovalD r.d), []) := by
  rw [evF_dn (n := 2) hb hf, evF_dn (n := 1) hb hf, evF_dn (n := 0) hb hf]
  show evF P W (k + 1) (f + 2 * B0) ds st = _
  rw [evF_oc hb hf, h]
  rfl
/-- .. what it raises -/
theorem evF_exc {f : Nat} {ds : List D} {st st' : Sto} {c : Str} {x : D} (hb : ∀ f, B0 ≤ f → P f = none) (hf : f < B0) (h0 : evF P W k f ds [] = none) (h : evF P W k (f + B0) ds [] = some (.v (.tuple [.str c, x]), st')) : evF P W (k + 4) (f + 5 * B0) ds st = some (.v (oexcD c x), []) := by
  rw [evF_dn (n := 2) hb hf, evF_dn (n := 1) hb hf, evF_dn (n := 0) hb hf]
  show evF P W (k + 1) (f + 2 * B0) ds st = _
  rw [evF_oc hb hf, h0, h]
  rfl
/-- what a def raises -/
theorem evF_rs {f : Nat} {ds : List D} {st : Sto} {c : Str} {x : D} {d : FD} (hb : ∀ f, B0 ≤ f → P f = none) (hf : f < B0) (hd : P f = some d) (hL : d.lam = .nil) (hl : ds.length = d.par) (h : xSs (evF P W k) W d.body (initE d.slots ds) st = some (c, x, st)) :
    evF P W (k + 1) (f + B0) ds st = some (.v (.tuple [.str c, x]), st) := by
  have e1 : P (f + B0) = none := hb _ (Nat.le_add_left _ _)
  have e2 : f + B0 - B0 = f := Nat.add_sub_cancel ..
  have e3 : (f + B0) / B0 = 1 := by have := b0_div (n := 1) hf; rwa [Nat.one_mul] at this
  rw [evF_b1 e1 e3 (by rw [e2]; exact hd), hL]
  simp only [hl, if_true, h]
end
/-! ### the steps, as the simplifier takes them -/
section
variable {i j : Int} {b c : Bool} {xs ys : List D} {x y : Str} {d e : D}
@[simp] theorem d_v : (RV.v d).d = d := rfl
@[simp] theorem d_o : (RV.o xs).d = .list xs := rfl
@[simp] theorem tr_none : truth .none = some false := rfl
@[simp] theorem tr_bool : truth (.bool b) = some b := rfl
@[simp] theorem tr_int : truth (.int i) = some (i != 0) := rfl
@[simp] theorem tr_tup : truth (.tuple xs) = some (!xs.isEmpty) := rfl
@[simp] theorem tr_list : truth (.list xs) = some (!xs.isEmpty) := rfl
@[simp] theorem o_add : op2 .add (.int i) (.int j) = some (.v (.int (i + j))) := rfl
@[simp] theorem o_sub : op2 .sub (.int i) (.int j) = some (.v (.int (i - j))) := rfl
theorem o_mul (h : big i = true) (h' : big j = true) : op2 .mul (.int i) (.int j) = some (.v (.int (i * j))) := by simp [op2, h, h']
theorem o_div (h : 0 < j) (h' : big j = true) : op2 .fdiv (.int i) (.int j) = some (.v (.int (i / j))) := by simp [op2, h, h']
theorem o_mod (h : 0 < j) : op2 .mod (.int i) (.int j) = some (.v (.int (i % j))) := by simp [op2, h]
theorem o_addT (h : xs.length + ys.length ≤ maxLen) : op2 .add (.tuple xs) (.tuple ys) = some (.v (.tuple (xs ++ ys))) := by simp [op2, h]
@[simp] theorem c_lt : cmp2 .lt (.int i) (.int j) = some (.bool (decide (i < j))) := rfl
@[simp] theorem c_le : cmp2 .le (.int i) (.int j) = some (.bool (decide (i ≤ j))) := rfl
@[simp] theorem c_gt : cmp2 .gt (.int i) (.int j) = some (.bool (decide (j < i))) := rfl
@[simp] theorem c_ge : cmp2 .ge (.int i) (.int j) = some (.bool (decide (j ≤ i))) := rfl
theorem c_eq (h : flat d = true) (h' : flat e = true) : cmp2 .eq d e = some (.bool (PyData.eqv d e)) := by cases d <;> simp [cmp2, h, h']
theorem c_ne (h : flat d = true) (h' : flat e = true) : cmp2 .ne d e = some (.bool (!PyData.eqv d e)) := by cases d <;> simp [cmp2, h, h']
@[simp] theorem fl_int : flat (.int i) = true := (rfl)
@[simp] theorem fl_bool : flat (.bool b) = true := (rfl)
@[simp] theorem fl_str : flat (.str x) = true := (rfl)
@[simp] theorem fl_none : flat .none = true := (rfl)
@[simp] theorem s_tup : sub2 (.tuple xs) (.int i) = L2.atI xs i := rfl
@[simp] theorem s_list : sub2 (.list xs) (.int i) = L2.atI xs i := rfl
@[simp] theorem l_tup {st : Sto} : look st (.tuple xs) = .tuple xs := rfl
@[simp] theorem l_list {st : Sto} : look st (.list xs) = .list xs := rfl
@[simp] theorem b_lenT : blt .len [.tuple xs] = some (.v (.int xs.length)) := rfl
@[simp] theorem b_lenL : blt .len [.list xs] = some (.v (.int xs.length)) := rfl
@[simp] theorem b_abs : blt .abs [.int i] = some (.v (.int (if i < 0 then -i else i))) := rfl
@[simp] theorem b_max : blt .max2 [.int i, .int j] = some (.v (.int (if j > i then j else i))) := rfl
@[simp] theorem b_min : blt .min2 [.int i, .int j] = some (.v (.int (if j < i then j else i))) := rfl
@[simp] theorem b_int : blt .int [.int i] = some (.v (.int i)) := rfl
@[simp] theorem b_intB : blt .int [.bool b] = some (.v (.int (if b then 1 else 0))) := rfl
@[simp] theorem b_tupL : blt .tuple [.list xs] = some (.v (.tuple xs)) := rfl
@[simp] theorem b_tupT : blt .tuple [.tuple xs] = some (.v (.tuple xs)) := rfl
@[simp] theorem b_listL : blt .list [.list xs] = some (.o xs) := rfl
@[simp] theorem b_listT : blt .list [.tuple xs] = some (.o xs) := rfl
@[simp] theorem r_tup : rev1 (.tuple xs) = some (.v (.tuple xs.reverse)) := rfl
@[simp] theorem r_list : rev1 (.list xs) = some (.o xs.reverse) := rfl
@[simp] theorem it_tup : itemsOf (.tuple xs) = some xs := rfl
@[simp] theorem it_list : itemsOf (.list xs) = some xs := rfl
@[simp] theorem bi_nm {n : Nat} {ρ : Rho} : bindTg (.nm n) d ρ = some (ρ.set n (some (.v d))) := by simp only [bindTg]
@[simp] theorem bi_tp {ts : Tgs} {ρ : Rho} : bindTg (.tp ts) (.tuple xs) ρ = bindTgs ts xs ρ := by simp only [bindTg]
@[simp] theorem bi_nil {ρ : Rho} : bindTgs .nil [] ρ = some ρ := by simp only [bindTgs]
@[simp] theorem bi_cons {n : Nat} {r : Tgs} {ρ : Rho} : bindTgs (.cons (.nm n) r) (d :: xs) ρ = bindTgs r xs (ρ.set n (some (.v d))) := by simp only [bindTgs, bindTg]
@[simp] theorem bi_ct {ts r : Tgs} {ys : List D} {ρ : Rho} : bindTgs (.cons (.tp ts) r) (.tuple ys :: xs) ρ = (bindTgs ts ys ρ).bind fun ρ1 => bindTgs r xs ρ1 := by
  simp only [bindTgs, bindTg]
  cases bindTgs ts ys ρ <;> rfl
@[simp] theorem wi_nil {ρ : Rho} : wipeE ρ [] = ρ := rfl
@[simp] theorem wi_cons {ρ : Rho} {n : Nat} {r : List Nat} : wipeE ρ (n :: r) = (wipeE ρ r).set n none := rfl
@[simp] theorem is_int : isi .int (.int i) = some true := rfl
@[simp] theorem is_intB : isi .int (.bool b) = some true := rfl
@[simp] theorem is_intS : isi .int (.str x) = some false := rfl
@[simp] theorem is_intN : isi .int .none = some false := rfl
@[simp] theorem is_intT : isi .int (.tuple xs) = some false := rfl
@[simp] theorem is_intL : isi .int (.list xs) = some false := rfl
@[simp] theorem is_booI : isi .bool (.int i) = some false := rfl
@[simp] theorem is_booB : isi .bool (.bool b) = some true := rfl
@[simp] theorem is_tupT : isi .tup (.tuple xs) = some true := rfl
@[simp] theorem is_tupL : isi .tup (.list xs) = some false := rfl
@[simp] theorem is_tupI : isi .tup (.int i) = some false := rfl
@[simp] theorem is_tupB : isi .tup (.bool b) = some false := rfl
@[simp] theorem is_tupS : isi .tup (.str x) = some false := rfl
@[simp] theorem is_tupN : isi .tup .none = some false := rfl
@[simp] theorem kD_s {y : Str} : kD (.inr y) = .str y := rfl
@[simp] theorem kD_i {i : Int} : kD (.inl i) = .int i := rfl
@[simp] theorem kO_s {y : Str} : kOf (.str y) = some (.inr y) := rfl
@[simp] theorem kO_i {i : Int} : kOf (.int i) = some (.inl i) := rfl
@[simp] theorem is_strS {y : Str} : isi .str (.str y) = some true := rfl
@[simp] theorem is_strI : isi .str (.int i) = some false := rfl
@[simp] theorem is_strB : isi .str (.bool b) = some false := rfl
@[simp] theorem is_strN : isi .str .none = some false := rfl
@[simp] theorem is_strT : isi .str (.tuple xs) = some false := rfl
@[simp] theorem is_strL : isi .str (.list xs) = some false := rfl
@[simp] theorem sl_nm {n : Nat} : slotsOf (.nm n) = [n] := rfl
@[simp] theorem hi_nil : hideO [] = [] := rfl
@[simp] theorem hi_c {y : Option RV} {ρ : Rho} : hideO (y :: ρ) = noOwn y :: hideO ρ := rfl
@[simp] theorem no_v {d : D} : noOwn (some (.v d)) = some (.v d) := rfl
@[simp] theorem no_n : noOwn none = none := rfl
@[simp] theorem no_o {ds : List D} : noOwn (some (.o ds)) = none := rfl
@[simp] theorem in_0 {n : Nat} : initE n xs = (xs.map fun d => some (.v d)) ++ List.replicate (n - xs.length) none := rfl
end
theorem atI_nat {α : Type} {xs : List α} {n : Nat} : L2.atI xs (n : Int) = xs[n]? := by
  unfold L2.atI L2.ixN
  by_cases h : (n : Int) < xs.length
  · rw [if_pos (by omega), if_pos h]; simp
  · rw [if_pos (by omega), if_neg h]
    rw [List.getElem?_eq_none (by omega)]; rfl
@[simp] theorem atI_0 {α : Type} {a : α} {xs : List α} : L2.atI (a :: xs) 0 = some a := by
  have := atI_nat (xs := a :: xs) (n := 0)
  simpa using this
@[simp] theorem atI_1 {α : Type} {a b : α} {xs : List α} : L2.atI (a :: b :: xs) 1 = some b := by
  have := atI_nat (xs := a :: b :: xs) (n := 1)
  simpa using this
@[simp] theorem atI_2 {α : Type} {a b c : α} {xs : List α} : L2.atI (a :: b :: c :: xs) 2 = some c := by
  have := atI_nat (xs := a :: b :: c :: xs) (n := 2)
  simpa using this
/-! ### flat data, enumerate, comprehensions over mapped lists -/
section
variable {α : Type}
theorem sh_iff {n : Nat} : ∀ {xs : List D}, shalAll n xs = true ↔ ∀ d ∈ xs, shal n d = true
  | [] => by simp [shalAll, PyData.plainAll, PyData.depthAll]
  | x :: r => by
    have ih := sh_iff (n := n) (xs := r)
    simp only [shalAll, shal, PyData.plainAll, PyData.depthAll, Bool.and_eq_true, decide_eq_true_eq, Nat.max_le] at ih ⊢
    simp only [List.mem_cons, forall_eq_or_imp]
    rw [← ih]
    constructor
    · rintro ⟨⟨a, b⟩, c, d⟩; exact ⟨⟨a, c⟩, b, d⟩
    · rintro ⟨⟨a, c⟩, b, d⟩; exact ⟨⟨a, b⟩, c, d⟩
theorem sh_tup {n : Nat} {xs : List D} (h : ∀ d ∈ xs, shal n d = true) : shal (n + 1) (.tuple xs) = true := by
  have := sh_iff.mpr h
  simp only [shalAll, Bool.and_eq_true, decide_eq_true_eq] at this
  simp only [shal, PyData.plain, Bool.and_eq_true, decide_eq_true_eq]
  exact ⟨this.1, Nat.succ_le_succ this.2⟩
theorem sh_list {n : Nat} {xs : List D} (h : ∀ d ∈ xs, shal n d = true) : shal (n + 1) (.list xs) = true := by
  have := sh_iff.mpr h
  simp only [shalAll, Bool.and_eq_true, decide_eq_true_eq] at this
  simp only [shal, PyData.plain, Bool.and_eq_true, decide_eq_true_eq]
  exact ⟨this.1, Nat.succ_le_succ this.2⟩
theorem sh_int {n : Nat} {i : Int} : shal n (.int i) = true := by simp [shal, PyData.plain, PyData.depth]
theorem sh_bool {n : Nat} {b : Bool} : shal n (.bool b) = true := by simp [shal, PyData.plain, PyData.depth]
theorem sh_str {n : Nat} {x : Str} : shal n (.str x) = true := by simp [shal, PyData.plain, PyData.depth]
theorem sh_none {n : Nat} : shal n .none = true := by simp [shal, PyData.plain, PyData.depth]
theorem sh_mono {n m : Nat} {d : D} (h : shal n d = true) (l : n ≤ m) : shal m d = true := by
  simp only [shal, Bool.and_eq_true, decide_eq_true_eq] at h ⊢
  exact ⟨h.1, by omega⟩
theorem fl_sh {n : Nat} {d : D} (h : shal n d = true) (l : n ≤ 20) : flat d = true := sh_mono h l
mutual
theorem eqv_self : ∀ {d : D}, d.plain = true → PyData.eqv d d = true
  | .none, _ => by simp [PyData.eqv]
  | .bool _, _ => by simp [PyData.eqv]
  | .int _, _ => by simp [PyData.eqv]
  | .str _, _ => by simp [PyData.eqv]
  | .list xs, h => by rw [PyData.eqv]; exact eqvAll_self (by simpa [PyData.plain] using h)
  | .tuple xs, h => by rw [PyData.eqv]; exact eqvAll_self (by simpa [PyData.plain] using h)
  | .dict _, h => by simp [PyData.plain] at h
theorem eqvAll_self : ∀ {xs : List D}, PyData.plainAll xs = true → PyData.eqvAll xs xs = true
  | [], _ => by simp [PyData.eqvAll]
  | x :: r, h => by
    simp only [PyData.plainAll, Bool.and_eq_true] at h
    rw [PyData.eqvAll, eqv_self h.1, eqvAll_self h.2]; rfl
end
theorem eqv_same {n : Nat} {d : D} (h : shal n d = true) : PyData.eqv d d = true := eqv_self (by simp only [shal, Bool.and_eq_true] at h; exact h.1)
theorem enumOf_eq (ds : List D) : enumOf ds = (List.range ds.length).map fun i => .tuple [.int (i : Nat), ds.getD i .none] := by
  apply List.ext_getElem?
  intro i
  unfold enumOf
  simp only [List.getElem?_map, List.getElem?_zipIdx]
  by_cases h : i < ds.length
  · rw [List.getElem?_range h, List.getElem?_eq_getElem h]
    simp [List.getD_eq_getElem?_getD, List.getElem?_eq_getElem h]
  · rw [List.getElem?_eq_none (by omega), List.getElem?_eq_none (by simp; omega)]
    rfl
theorem mapM_map {f : D → Sto → Option (List D × Sto)} {st : Sto} {e : α → D} {g : α → List D} : ∀ {l : List α}, (∀ a ∈ l, f (e a) st = some (g a, st)) → mapM f (l.map e) st = some ((l.map g).flatten, st)
  | [], _ => rfl
  | d :: r, h => by
    simp only [List.map_cons, mapM, h d (List.mem_cons_self ..), mapM_map (l := r) fun x hx => h x (List.mem_cons_of_mem _ hx)]
    simp
theorem flat_one {β : Type} {f : α → β} : ∀ {l : List α}, (l.map fun a => [f a]).flatten = l.map f
  | [] => rfl
  | a :: r => by simp [flat_one (l := r)]
theorem flat_if {β : Type} {p : α → Bool} {f : α → β} : ∀ {l : List α}, (l.map fun a => if p a = true then [f a] else []).flatten = (l.filter p).map f
  | [] => rfl
  | a :: r => by
    have ih := flat_if (p := p) (f := f) (l := r)
    cases h : p a <;> simp [h, ih]
/-- a comprehension with no store, over a mapped list -/
theorem wp_comp {F : FT} {own : List Nat} {tg : Tg} {ifs : CEs} {elt : CE} {ρ : Rho} {st : Sto} {e : α → D} {f : α → D} {l : List α} {Q : List D × Sto → Prop} (h : ∀ a ∈ l, wp (itemF F own tg ifs elt ρ (e a) st) fun p => p = ([f a], st)) (hq : Q (l.map f, st)) : wp (mapM (itemF F own tg ifs elt ρ) (l.map e) st) Q := by
  rw [mapM_map (g := fun a => [f a]) fun a ha => eq_of_wp (h a ha), flat_one]
  exact wp_some.mpr hq
theorem wM_nil {g : D → Sto → Option (List D × Sto)} {st : Sto} {Q : List D × Sto → Prop} : wp (mapM g [] st) Q ↔ Q ([], st) := by simp only [mapM, wp_some]
theorem wM_cons {g : D → Sto → Option (List D × Sto)} {st : Sto} {x : D} {r : List D} {Q : List D × Sto → Prop} : wp (mapM g (x :: r) st) Q ↔ wp (g x st) fun p => wp (mapM g r p.2) fun q => Q (p.1 ++ q.1, q.2) := by
  simp only [mapM]
  cases g x st with
  | none => simp
  | some p =>
    obtain ⟨ys, st1⟩ := p
    simp only [wp_some]
    cases mapM g r st1 with
    | none => simp
    | some q => obtain ⟨zs, st2⟩ := q; simp
theorem wp_comp2 {g : D → Sto → Option (List D × Sto)} {st : Sto} {e : α → D} {f : α → List D} {l : List α} {Q : List D × Sto → Prop} (h : ∀ a ∈ l, wp (g (e a) st) fun p => p = (f a, st)) (hq : Q ((l.map f).flatten, st)) : wp (mapM g (l.map e) st) Q := by
  rw [mapM_map (g := f) fun a ha => eq_of_wp (h a ha)]
  exact wp_some.mpr hq
theorem wp_compIf {F : FT} {own : List Nat} {tg : Tg} {ifs : CEs} {elt : CE} {ρ : Rho} {st : Sto} {e : α → D} {p : α → Bool} {f : α → D} {l : List α} {Q : List D × Sto → Prop} (h : ∀ a ∈ l, wp (itemF F own tg ifs elt ρ (e a) st) fun q => q = (if p a = true then [f a] else [], st)) (hq : Q ((l.filter p).map f, st)) : wp (mapM (itemF F own tg ifs elt ρ) (l.map e) st) Q := by
  rw [mapM_map (g := fun a => if p a = true then [f a] else []) fun a ha => eq_of_wp (h a ha), flat_if]
  exact wp_some.mpr hq
end
/-! ### sizes -/
section
variable {i j : Int} {Q : RV → Prop}
@[simp] theorem w_mul : wp (op2 .mul (.int i) (.int j)) Q ↔ big i = true ∧ big j = true ∧ Q (.v (.int (i * j))) := by
  show wp (if (big i && big j) = true then some (RV.v (.int (i * j))) else none) Q ↔ _
  rw [wp_if, Bool.and_eq_true, and_assoc]
@[simp] theorem w_div : wp (op2 .fdiv (.int i) (.int j)) Q ↔ 0 < j ∧ big j = true ∧ Q (.v (.int (i / j))) := by
  show wp (if (decide (0 < j) && big j) = true then some (RV.v (.int (i / j))) else none) Q ↔ _
  rw [wp_if, Bool.and_eq_true, decide_eq_true_eq, and_assoc]
@[simp] theorem w_mod : wp (op2 .mod (.int i) (.int j)) Q ↔ 0 < j ∧ Q (.v (.int (i % j))) := by
  show wp (if decide (0 < j) = true then some (RV.v (.int (i % j))) else none) Q ↔ _
  rw [wp_if, decide_eq_true_eq]
/-- small enough for a power -/
def pw (i : Int) : Bool := decide (i.natAbs < 2 ^ 1000)
@[simp] theorem pw_10 : pw 10 = true := by decide +kernel
@[simp] theorem pw_2 : pw 2 = true := by decide +kernel
@[simp] theorem pw_1060 : pw 1000000000000000000000000000000000000000000000000000000000000 = true := by decide +kernel
@[simp] theorem w_pow : wp (op2 .pow (.int i) (.int j)) Q ↔ 0 ≤ j ∧ j ≤ 1000 ∧ pw i = true ∧ Q (.v (.int (i ^ j.toNat))) := by
  show wp (if (decide (0 ≤ j) && decide (j ≤ 1000) && decide (i.natAbs < 2 ^ 1000)) = true then some (RV.v (.int (i ^ j.toNat))) else none) Q ↔ _
  rw [wp_if, Bool.and_eq_true, Bool.and_eq_true, decide_eq_true_eq, decide_eq_true_eq, and_assoc, and_assoc]
  rfl
/-- at most m figures -/
def bd (i : Int) (m : Nat) : Prop := i.natAbs < 10 ^ m
theorem bd_mono {m l : Nat} (h : bd i m) (hl : m ≤ l) : bd i l := Nat.lt_of_lt_of_le h (Nat.pow_le_pow_right (by omega) hl)
theorem bd_mul {m l : Nat} (h : bd i m) (h' : bd j l) : bd (i * j) (m + l) := by
  unfold bd at *
  rw [Int.natAbs_mul, Nat.pow_add]
  rcases Nat.eq_zero_or_pos j.natAbs with z | z
  · rw [z, Nat.mul_zero]; exact Nat.mul_pos (Nat.pow_pos (by omega)) (Nat.pow_pos (by omega))
  · exact Nat.lt_of_lt_of_le (Nat.mul_lt_mul_of_pos_right h z) (Nat.mul_le_mul_left _ (Nat.le_of_lt h'))
theorem bd_add {m l : Nat} (h : bd i m) (h' : bd j l) : bd (i + j) (max m l + 1) := by
  have h1 := bd_mono h (Nat.le_max_left m l)
  have h2 := bd_mono h' (Nat.le_max_right m l)
  unfold bd at *
  rw [Nat.pow_succ]
  generalize 10 ^ max m l = z at *
  omega
theorem bd_sub {m l : Nat} (h : bd i m) (h' : bd j l) : bd (i - j) (max m l + 1) := by
  have h1 := bd_mono h (Nat.le_max_left m l)
  have h2 := bd_mono h' (Nat.le_max_right m l)
  unfold bd at *
  rw [Nat.pow_succ]
  generalize 10 ^ max m l = z at *
  omega
theorem bd_pow {m : Nat} (h : bd i m) : ∀ n : Nat, bd (i ^ n) (m * n + 1)
  | 0 => by simp [bd]
  | n + 1 => by
    have := bd_mul (bd_pow h n) h
    rw [Int.pow_succ]
    exact bd_mono this (by rw [Nat.mul_succ]; omega)
theorem bd_of {m : Nat} (h0 : 0 ≤ i) (h : i < 10 ^ m) : bd i m := by
  unfold bd
  have e : ((10 ^ m : Nat) : Int) = 10 ^ m := by simp
  rw [← e] at h
  omega
theorem bd_mod {m : Nat} (h : 0 < j) (h' : bd j m) : bd (i % j) m := by
  unfold bd at *
  have h1 := Int.emod_nonneg i (by omega : j ≠ 0)
  have h2 := Int.emod_lt_of_pos i h
  omega
theorem big_bd {m : Nat} (h : bd i m) (hm : m ≤ 1000) : big i = true := by
  unfold big
  rw [decide_eq_true_eq]
  exact Nat.lt_trans (bd_mono h hm) (by decide +kernel)
theorem pow_bd {m : Nat} (h : bd i m) (hm : m ≤ 300) : pw i = true := decide_eq_true <| Nat.lt_of_lt_of_le (bd_mono h hm) (by decide +kernel)
end
theorem look_at {st : Sto} {n : Nat} {ds : List D} (h : st[n]? = some ds) : look st (.dict [(.none, .int (n : Int))]) = .list ds := by
  unfold look cellOf
  simp [h]
theorem setAt_3 {a b c x : D} : setAt [a, b, c] (.int 0) x = some [x, b, c] ∧ setAt [a, b, c] (.int 1) x = some [a, x, c] ∧ setAt [a, b, c] (.int 2) x = some [a, b, x] := ⟨rfl, rfl, rfl⟩
section
variable {F : FT} {ρ : Rho} {st : Sto} {Q : Fl → Prop} {W : Nat}
@[simp] theorem wS_setS {i ix e} : wp (evS F W (.setS i ix e) ρ st) Q ↔ wp (evE F e ρ st) fun p => wp (evE F ix ρ p.2) fun k => ∃ ds, ρ[i]? = some (some (.o ds)) ∧ wp (setAt ds k.1.d p.1.d) fun ds1 => Q (.nx (ρ.set i (some (.o ds1))) k.2) := by
  simp only [evS]
  cases evE F e ρ st with
  | none => simp
  | some p =>
    obtain ⟨x, st1⟩ := p
    simp only [wp_some]
    cases evE F ix ρ st1 with
    | none => simp
    | some k =>
      obtain ⟨k, st2⟩ := k
      simp only [wp_some]
      split
      · rename_i ds h
        rw [h]
        cases hs : setAt ds k.d x.d <;> simp [hs]
      · rename_i h
        simp only [wp_none, false_iff]
        rintro ⟨ds, e1, _⟩
        exact h _ e1
@[simp] theorem wS_setS2 {i i1 i2 e1 e2} : wp (evS F W (.setS2 i i1 i2 e1 e2) ρ st) Q ↔ wp (evE F e1 ρ st) fun p => wp (evE F e2 ρ p.2) fun p' => wp (evE F i1 ρ p'.2) fun k => ∃ ds, ρ[i]? = some (some (.o ds)) ∧ wp (setAt ds k.1.d p.1.d) fun ds1 =>
    wp (evE F i2 (ρ.set i (some (.o ds1))) k.2) fun k2 => wp (setAt ds1 k2.1.d p'.1.d) fun ds2 => Q (.nx (ρ.set i (some (.o ds2))) k2.2) := by
  simp only [evS]
  cases evE F e1 ρ st with
  | none => simp
  | some p =>
    obtain ⟨x, st1⟩ := p
    simp only [wp_some]
    cases evE F e2 ρ st1 with
    | none => simp
    | some p' =>
      obtain ⟨x', st2⟩ := p'
      simp only [wp_some]
      cases evE F i1 ρ st2 with
      | none => simp
      | some k =>
        obtain ⟨k, st3⟩ := k
        simp only [wp_some]
        split
        · rename_i ds h
          rw [h]
          cases hs : setAt ds k.d x.d with
          | none => simp [hs]
          | some ds1 =>
            simp only [Option.some.injEq, exists_eq_left', hs, wp_some]
            cases hk : evE F i2 (ρ.set i (some (.o ds1))) st3 with
            | none => simp [hs, hk]
            | some k2 =>
              obtain ⟨k2, st4⟩ := k2
              cases hs2 : setAt ds1 k2.d x'.d <;> simp [hs, hk, hs2]
        · rename_i h
          simp only [wp_none, false_iff]
          rintro ⟨ds, e1, _⟩
          exact h _ e1
@[simp] theorem w_loop_nil {f : D → Rho → Sto → Option Fl} : wp (loop f [] ρ st) Q ↔ Q (.nx ρ st) := by simp [loop]
/-- what is to hold behind one turn -/
def turnQ (f : D → Rho → Sto → Option Fl) (r : List D) (Q : Fl → Prop) : Fl → Prop
  | .nx ρ st => wp (loop f r ρ st) Q
  | .ct ρ st => wp (loop f r ρ st) Q
  | .bk ρ st => Q (.nx ρ st)
  | .rt v st => Q (.rt v st)
@[simp] theorem turnQ_nx {f : D → Rho → Sto → Option Fl} {r} : turnQ f r Q (.nx ρ st) ↔ wp (loop f r ρ st) Q := Iff.rfl
@[simp] theorem turnQ_ct {f : D → Rho → Sto → Option Fl} {r} : turnQ f r Q (.ct ρ st) ↔ wp (loop f r ρ st) Q := Iff.rfl
@[simp] theorem turnQ_bk {f : D → Rho → Sto → Option Fl} {r} : turnQ f r Q (.bk ρ st) ↔ Q (.nx ρ st) := Iff.rfl
@[simp] theorem turnQ_rt {f : D → Rho → Sto → Option Fl} {r v} : turnQ f r Q (.rt v st) ↔ Q (.rt v st) := Iff.rfl
@[simp] theorem w_loop_cons {f : D → Rho → Sto → Option Fl} {x : D} {r : List D} : wp (loop f (x :: r) ρ st) Q ↔ wp (f x ρ st) (turnQ f r Q) := by
  simp only [loop]
  cases f x ρ st with
  | none => simp
  | some fl => cases fl <;> simp
end
/-- a comprehension by its invariant -/
theorem wp_mapI {f : D → Sto → Option (List D × Sto)} {ds : List D} {st : Sto} {Q : List D × Sto → Prop} (I : Nat → List D → Sto → Prop) (h0 : I 0 [] st)
    (hs : ∀ i d out st, ds[i]? = some d → I i out st → wp (f d st) fun p => I (i + 1) (out ++ p.1) p.2) (hq : ∀ out st', I ds.length out st' → Q (out, st')) : wp (mapM f ds st) Q := by
  have key : ∀ (n i : Nat) (out : List D) (st : Sto), n = ds.length - i → i ≤ ds.length → I i out st → wp (mapM f (ds.drop i) st) fun p => Q (out ++ p.1, p.2) := by
    intro n
    induction n with
    | zero =>
      intro i out st hn hi h
      have : i = ds.length := by omega
      subst this
      rw [List.drop_length]
      simp only [mapM, wp_some, List.append_nil]
      exact hq out st h
    | succ n ih =>
      intro i out st hn hi h
      have hlt : i < ds.length := by omega
      obtain ⟨⟨ys, st1⟩, e, q⟩ := hs i ds[i] out st (List.getElem?_eq_getElem hlt) h
      obtain ⟨⟨zs, st2⟩, e2, q2⟩ := ih (i + 1) (out ++ ys) st1 (by omega) hlt q
      rw [List.drop_eq_getElem_cons hlt]
      simp only [mapM, e, e2, wp_some]
      simpa using q2
  have := key ds.length 0 [] st (by omega) (Nat.zero_le _) h0
  simpa using this
theorem rangeL_len {lo : Int} {n : Nat} : (rangeL lo n).length = n := by simp [rangeL]
theorem rangeL_at {lo : Int} {n i : Nat} {d : D} (h : (rangeL lo n)[i]? = some d) : i < n ∧ d = .int (lo + (i : Nat)) := by
  unfold rangeL at h
  rw [List.getElem?_map] at h
  obtain ⟨j, h1, rfl⟩ := Option.map_eq_some_iff.mp h
  obtain ⟨hl, e⟩ := List.getElem?_eq_some_iff.mp h1
  simp at hl e
  subst e
  exact ⟨hl, rfl⟩
theorem rng_down {i j : Int} (h1 : -(2 ^ 40) < i) (h2 : i < 2 ^ 40) (h3 : -(2 ^ 40) < j) (h4 : j < 2 ^ 40) (h5 : i - j ≤ 100000) : rangeOf [.int i, .int j, .int (-1)] = some (rangeStep i (-1) (i - j).toNat) := by
  have e1 : Builtin.Range.small i j (-1) = true := PySem.W.small_down (by omega) (by omega) (by omega) (by omega)
  have e2 : (Builtin.Range.rangeSize i j (-1)).toNat = (i - j).toNat := by rw [PySem.W.rangeSize_downNat]; omega
  have e3 : (i - j).toNat ≤ maxLen := by simp [maxLen]; omega
  simp only [rangeOf, e1, e2, e3]
  simp
theorem rng_1 {j : Int} (h1 : -(2 ^ 40) < j) (h2 : j ≤ 100000) : rangeOf [.int j] = some (rangeL 0 j.toNat) := by
  have h1 : small j = true := by simp [small]; omega
  have h2 : j ≤ maxLen := by simp [maxLen]; omega
  simp [rangeOf, h1, h2]
theorem rangeStep_len {lo c : Int} {n : Nat} : (rangeStep lo c n).length = n := by simp [rangeStep]
theorem rangeStep_at {lo c : Int} {n i : Nat} {d : D} (h : (rangeStep lo c n)[i]? = some d) : i < n ∧ d = .int (lo + (i : Nat) * c) := by
  unfold rangeStep at h
  rw [List.getElem?_map] at h
  obtain ⟨j, h1, rfl⟩ := Option.map_eq_some_iff.mp h
  obtain ⟨hl, e⟩ := List.getElem?_eq_some_iff.mp h1
  simp at hl e
  subst e
  exact ⟨hl, rfl⟩
end Ev

set_option maxHeartbeats 0
/-! ### the law's program as terms -/
namespace Ev.Lw
open PySem PySem.Spec PyProof.Rows L2 Ev
def b_is_integer : CSs :=
  .cons (.ret (.and (.isi .int (.var 0)) (.one (.not (.isi .bool (.var 0)))))) .nil
abbrev d_is_integer : FD := ⟨1, 1, b_is_integer, .nil⟩
def b_is_between : CSs :=
  .cons (.ret (.and (.call 455 (.cons false (.var 0) .nil)) (.one (.chain .le .le (.var 1) (.var 0) (.var 2))))) .nil
abbrev d_is_between : FD := ⟨3, 3, b_is_between, .nil⟩
def b_are_between : CSs :=
  .cons (.ret (.and (.isi .tup (.var 0)) (.one (.blt .all (.cons false (.comp [3] (.nm 3) (.seq (.var 0)) (.nil) (.call 449 (.cons false (.var 3) (.cons false (.var 1) (.cons false (.var 2) .nil))))) .nil))))) .nil
abbrev d_are_between : FD := ⟨4, 3, b_are_between, .nil⟩
def b_is_order_of : CSs :=
  .cons (.ret (.and (.call 261 (.cons false (.var 1) (.cons false (.con (.int 0)) (.cons false (.bin .sub (.var 0) (.con (.int 1))) .nil)))) (.one (.cmp .eq (.blt .sorted (.cons false (.var 1) .nil)) (.lrng (.cons false (.var 0) .nil)))))) .nil
abbrev d_is_order_of : FD := ⟨2, 2, b_is_order_of, .nil⟩
def b_is_order : CSs :=
  .cons (.ret (.and (.isi .tup (.var 0)) (.and (.call 449 (.cons false (.blt .len (.cons false (.var 0) .nil)) (.cons false (.con (.int 1)) (.cons false (.gl "MOST_TRACKS" (.int 10)) .nil)))) (.one (.call 466 (.cons false (.blt .len (.cons false (.var 0) .nil)) (.cons false (.var 0) .nil))))))) .nil
abbrev d_is_order : FD := ⟨1, 1, b_is_order, .nil⟩
def b_check_order : CSs :=
  .cons (.ite (.not (.call 465 (.cons false (.var 0) .nil))) (.cons (.raise "BadOrder" (.var 0)) .nil) (.nil)) .nil
abbrev d_check_order : FD := ⟨1, 1, b_check_order, .nil⟩
def b_falls_of : CSs :=
  .cons (.asgO 1 (.lst (.nil))) (.cons (.for_ (.tp (.cons (.nm 2) (.cons (.nm 3) .nil))) (.enum (.var 0)) (.cons (.ext 1 (.comp [4] (.nm 4) (.rng (.cons false (.bin .add (.var 2) (.con (.int 1))) (.cons false (.blt .len (.cons false (.var 0) .nil)) .nil))) (.cons false (.cmp .lt (.sub (.var 0) (.var 4)) (.var 3)) .nil) (.tup (.cons false (.var 2) (.cons false (.var 4) .nil))))) .nil)) (.cons (.retO 1) .nil))
abbrev d_falls_of : FD := ⟨5, 1, b_falls_of, .nil⟩
def b_falls : CSs :=
  .cons (.expr (.call 319 (.cons false (.var 0) .nil))) (.cons (.ret (.blt .tuple (.cons false (.call 396 (.cons false (.var 0) .nil)) .nil))) .nil)
abbrev d_falls : FD := ⟨1, 1, b_falls, .nil⟩
def b_code : CSs :=
  .cons (.expr (.call 319 (.cons false (.var 0) .nil))) (.cons (.asg (.nm 1) (.comp [2, 3] (.tp (.cons (.nm 2) (.cons (.nm 3) .nil))) (.seq (.call 396 (.cons false (.var 0) .nil))) (.nil) (.var 2))) (.cons (.ret (.blt .tuple (.cons false (.comp [4] (.nm 4) (.rng (.cons false (.blt .len (.cons false (.var 0) .nil)) .nil)) (.nil) (.cnt (.var 1) (.var 4))) .nil))) .nil))
abbrev d_code : FD := ⟨5, 1, b_code, .nil⟩
def b_is_code : CSs :=
  .cons (.ite (.or (.not (.isi .tup (.var 0))) (.one (.not (.call 449 (.cons false (.blt .len (.cons false (.var 0) .nil)) (.cons false (.con (.int 1)) (.cons false (.gl "MOST_TRACKS" (.int 10)) .nil))))))) (.cons (.ret (.con (.bool false))) .nil) (.nil)) (.cons (.ret (.blt .all (.cons false (.comp [1, 2] (.tp (.cons (.nm 1) (.cons (.nm 2) .nil))) (.enum (.var 0)) (.nil) (.call 449 (.cons false (.var 2) (.cons false (.con (.int 0)) (.cons false (.bin .sub (.bin .sub (.blt .len (.cons false (.var 0) .nil)) (.con (.int 1))) (.var 1)) .nil))))) .nil))) .nil)
abbrev d_is_code : FD := ⟨3, 1, b_is_code, .nil⟩
def b_order_of : CSs :=
  .cons (.ite (.not (.call 451 (.cons false (.var 0) .nil))) (.cons (.raise "BadCode" (.var 0)) .nil) (.nil)) (.cons (.par [(2, true), (3, true)] (.cons false (.lrng (.cons false (.blt .len (.cons false (.var 0) .nil)) .nil)) (.cons false (.lst (.nil)) .nil))) (.cons (.for_ (.nm 1) (.seq (.var 0)) (.cons (.appPop 3 2 (.var 1)) .nil)) (.cons (.ret (.blt .tuple (.cons false (.peek 3) .nil))) .nil)))
abbrev d_order_of : FD := ⟨4, 1, b_order_of, .nil⟩
def b_turn : CSs :=
  .cons (.ret (.blt .tuple (.cons false (.comp [1] (.nm 1) (.rng (.cons false (.blt .len (.cons false (.var 0) .nil)) .nil)) (.nil) (.idx (.var 0) (.var 1))) .nil))) .nil
abbrev d_turn : FD := ⟨2, 1, b_turn, .nil⟩
def b_turned : CSs :=
  .cons (.expr (.call 319 (.cons false (.var 0) .nil))) (.cons (.ret (.call 697 (.cons false (.var 0) .nil))) .nil)
abbrev d_turned : FD := ⟨1, 1, b_turned, .nil⟩
def b_u_law_pot : CSs :=
  .cons (.asg (.nm 2) (.ite (.cmp .lt (.var 1) (.blt .len (.cons false (.var 0) .nil))) (.sub (.var 0) (.var 1)) (.bin .add (.bin .add (.bin .mod (.blt .sum (.cons false (.sl (.var 0) .none (.some (.con (.int 1)))) .nil)) (.con (.int 1000211))) (.bin .mul (.con (.int 5737)) (.var 1))) (.con (.int 613))))) (.cons (.asg (.nm 3) (.bin .mul (.bin .mod (.blt .int (.cons false (.blt .abs (.cons false (.var 2) .nil)) .nil)) (.bin .pow (.bin .pow (.con (.int 10)) (.con (.int 60))) (.con (.int 5)))) (.blt .int (.cons false (.cmp .ge (.blt .abs (.cons false (.var 2) .nil)) (.bin .pow (.con (.int 10)) (.con (.int 18)))) .nil)))) (.cons (.asg (.nm 4) (.bin .mod (.blt .int (.cons false (.var 2) .nil)) (.con (.int 2305843009213693951)))) (.cons (.ret (.lst (.cons false (.var 3) (.cons false (.bin .mod (.blt .int (.cons false (.bin .add (.bin .add (.bin .mul (.var 4) (.con (.int 69931))) (.bin .mul (.bin .mul (.con (.int 8161)) (.var 1)) (.var 1))) (.con (.int 1289))) .nil)) (.con (.int 2305843009213693921))) (.cons false (.con (.int 0)) .nil))))) .nil)))
abbrev d_u_law_pot : FD := ⟨5, 2, b_u_law_pot, .nil⟩
def b_u_law_take : CSs :=
  .cons (.ite (.cmp .gt (.sub (.var 0) (.con (.int 0))) (.con (.int 0))) (.cons (.asg (.nm 4) (.bin .mod (.blt .int (.cons false (.sub (.var 0) (.con (.int 0))) .nil)) (.var 1))) (.cons (.setC 0 (.con (.int 0)) (.bin .fdiv (.sub (.var 0) (.con (.int 0))) (.var 1))) (.cons (.ret (.var 4)) .nil))) (.nil)) (.cons (.setC 0 (.con (.int 2)) (.bin .add (.sub (.var 0) (.con (.int 2))) (.con (.int 1)))) (.cons (.asg (.nm 2) (.sub (.lst (.cons false (.con (.int 2147482507)) (.cons false (.con (.int 2147482501)) (.cons false (.con (.int 2147482481)) (.cons false (.con (.int 2147482417)) (.cons false (.con (.int 2147482409)) .nil)))))) (.bin .mod (.blt .int (.cons false (.sub (.var 0) (.con (.int 2))) .nil)) (.con (.int 5))))) (.cons (.asg (.nm 3) (.bin .mod (.blt .int (.cons false (.bin .pow (.blt .int (.cons false (.bin .add (.bin .add (.sub (.var 0) (.con (.int 1))) (.bin .mul (.bin .mul (.con (.int 73583)) (.sub (.var 0) (.con (.int 2)))) (.sub (.var 0) (.con (.int 2))))) (.con (.int 1871))) .nil)) (.con (.int 3))) .nil)) (.var 2))) (.cons (.asg (.nm 3) (.bin .mod (.blt .int (.cons false (.bin .mul (.var 3) (.bin .add (.bin .mod (.blt .int (.cons false (.var 3) .nil)) (.con (.int 8069))) (.bin .mul (.con (.int 241)) (.sub (.var 0) (.con (.int 2)))))) .nil)) (.con (.int 2305843009213693907)))) (.cons (.ret (.bin .mod (.blt .int (.cons false (.bin .fdiv (.var 3) (.con (.int 157))) .nil)) (.var 1))) .nil)))))
abbrev d_u_law_take : FD := ⟨5, 2, b_u_law_take, .nil⟩
def b_u_law_of : CSs :=
  .cons (.ret (.sub (.var 1) (.call 230 (.cons false (.var 0) (.cons false (.blt .len (.cons false (.var 1) .nil)) .nil))))) .nil
abbrev d_u_law_of : FD := ⟨2, 2, b_u_law_of, .nil⟩
def b_u_law_some : CSs :=
  .cons (.par [(4, true), (5, true)] (.cons false (.blt .list (.cons false (.var 1) .nil)) (.cons false (.lst (.nil)) .nil))) (.cons (.for_ (.nm 3) (.rng (.cons false (.var 2) .nil)) (.cons (.appPop 5 4 (.call 230 (.cons false (.var 0) (.cons false (.blt .len (.cons false (.peek 4) .nil)) .nil)))) .nil)) (.cons (.retO 5) .nil))
abbrev d_u_law_some : FD := ⟨6, 3, b_u_law_some, .nil⟩
def b_u_law_cells : CSs :=
  .cons (.ret (.lrng (.cons false (.blt .max2 (.cons false (.con (.int 1)) (.cons false (.blt .min2 (.cons false (.var 1) (.cons false (.blt .len (.cons false (.var 0) .nil)) .nil))) .nil))) .nil))) .nil
abbrev d_u_law_cells : FD := ⟨2, 2, b_u_law_cells, .nil⟩
def b_u_law_is_int : CSs :=
  .cons (.ret (.and (.isi .int (.var 0)) (.and (.not (.isi .bool (.var 0))) (.one (.chain .le .le (.var 1) (.var 0) (.var 2)))))) .nil
abbrev d_u_law_is_int : FD := ⟨3, 3, b_u_law_is_int, .nil⟩
def b_u_law_odd : CSs :=
  .cons (.asg (.nm 1) (.lst (.cons false (.con .none) (.cons false (.con (.bool true)) (.cons false (.con (.bool false)) (.cons false (.con (.int 0)) (.cons false (.con (.int 1)) (.cons false (.neg (.con (.int 1))) (.cons false (.con (.int 7)) (.cons false (.bin .pow (.con (.int 10)) (.con (.int 11))) (.cons false (.con (.str "")) (.cons false (.con (.str "a")) (.cons false (.con (.str "rungs")) (.cons false (.tup (.nil)) (.cons false (.tup (.cons false (.con (.int 0)) .nil)) (.cons false (.tup (.cons false (.con .none) .nil)) (.cons false (.lst (.nil)) (.cons false (.lst (.cons false (.con (.int 0)) .nil)) (.cons false (.dlit [] (.nil)) (.cons false (.dlit ["a"] (.cons false (.con (.int 1)) .nil)) (.cons false (.tup (.cons false (.tup (.cons false (.con (.int 0)) (.cons false (.con (.int 0)) .nil))) .nil)) .nil))))))))))))))))))))) (.cons (.ret (.call 193 (.cons false (.var 0) (.cons false (.var 1) .nil)))) .nil)
abbrev d_u_law_odd : FD := ⟨2, 1, b_u_law_odd, .nil⟩
def b_u_law_bent : CSs :=
  .cons (.ite (.and (.isi .tup (.var 1)) (.and (.cmp .ne (.var 1) (.tup (.nil))) (.one (.cmp .ne (.call 230 (.cons false (.var 0) (.cons false (.con (.int 5)) .nil))) (.con (.int 0)))))) (.cons (.asg (.nm 2) (.call 230 (.cons false (.var 0) (.cons false (.blt .len (.cons false (.var 1) .nil)) .nil)))) (.cons (.ret (.bin .add (.bin .add (.sl (.var 1) .none (.some (.var 2))) (.tup (.cons false (.call 62 (.cons false (.var 0) (.cons false (.sub (.var 1) (.var 2)) .nil))) .nil))) (.sl (.var 1) (.some (.bin .add (.var 2) (.con (.int 1)))) .none))) .nil)) (.nil)) (.cons (.ite (.isi .tup (.var 1)) (.cons (.asg (.nm 3) (.blt .list (.cons false (.var 1) .nil))) (.cons (.ret (.call 193 (.cons false (.var 0) (.cons false (.lst (.cons false (.var 3) (.cons false (.sl (.var 1) .none (.some (.neg (.con (.int 1))))) (.cons false (.bin .add (.var 1) (.sl (.var 1) .none (.some (.con (.int 1))))) (.cons false (.bin .add (.var 1) (.tup (.cons false (.con (.int 0)) .nil))) (.cons false (.rev (.var 1)) (.cons false (.tup (.cons false (.var 1) .nil)) (.cons false (.sl (.var 3) .none (.some (.con (.int 1)))) (.cons false (.call 192 (.cons false (.var 0) .nil)) .nil))))))))) .nil)))) .nil)) (.nil)) (.cons (.ite (.call 126 (.cons false (.var 1) (.cons false (.neg (.bin .pow (.con (.int 10)) (.con (.int 30)))) (.cons false (.bin .pow (.con (.int 10)) (.con (.int 30))) .nil)))) (.cons (.ret (.call 193 (.cons false (.var 0) (.cons false (.lst (.cons false (.bin .add (.var 1) (.con (.int 1))) (.cons false (.bin .sub (.var 1) (.con (.int 1))) (.cons false (.neg (.var 1)) (.cons false (.blt .str (.cons false (.var 1) .nil)) (.cons false (.cmp .eq (.var 1) (.con (.int 1))) (.cons false (.call 192 (.cons false (.var 0) .nil)) .nil))))))) .nil)))) .nil) (.nil)) (.cons (.ret (.call 192 (.cons false (.var 0) .nil))) .nil)))
abbrev d_u_law_bent : FD := ⟨4, 2, b_u_law_bent, .nil⟩
def b_u_law_caught : CSs :=
  .cons (.cret 0 false) .nil
abbrev d_u_law_caught : FD := ⟨4, 1, b_u_law_caught, .nil⟩
def b_u_law_falls : CSs :=
  .cons (.asgO 1 (.lst (.nil))) (.cons (.for_ (.nm 2) (.rng (.cons false (.blt .len (.cons false (.var 0) .nil)) .nil)) (.cons (.ext 1 (.comp [3] (.nm 3) (.rng (.cons false (.bin .add (.var 2) (.con (.int 1))) (.cons false (.blt .len (.cons false (.var 0) .nil)) .nil))) (.cons false (.cmp .lt (.sub (.var 0) (.var 3)) (.sub (.var 0) (.var 2))) .nil) (.tup (.cons false (.var 2) (.cons false (.var 3) .nil))))) .nil)) (.cons (.retO 1) .nil))
abbrev d_u_law_falls : FD := ⟨4, 1, b_u_law_falls, .nil⟩
def b_u_law_order : CSs :=
  .cons (.ret (.blt .tuple (.cons false (.call 219 (.cons false (.var 0) (.cons false (.lrng (.cons false (.var 1) .nil)) (.cons false (.var 1) .nil)))) .nil))) .nil
abbrev d_u_law_order : FD := ⟨2, 2, b_u_law_order, .nil⟩
def b_u_law_is_order : CSs :=
  .cons (.ret (.and (.isi .tup (.var 1)) (.and (.cmp .eq (.blt .len (.cons false (.var 1) .nil)) (.var 0)) (.and (.blt .all (.cons false (.comp [2] (.nm 2) (.seq (.var 1)) (.nil) (.call 126 (.cons false (.var 2) (.cons false (.con (.int 0)) (.cons false (.bin .sub (.var 0) (.con (.int 1))) .nil))))) .nil)) (.one (.cmp .eq (.blt .sorted (.cons false (.var 1) .nil)) (.lrng (.cons false (.var 0) .nil)))))))) .nil
abbrev d_u_law_is_order : FD := ⟨3, 2, b_u_law_is_order, .nil⟩
def b_u_law_is_code : CSs :=
  .cons (.ite (.or (.not (.isi .tup (.var 0))) (.one (.not (.chain .le .le (.con (.int 1)) (.blt .len (.cons false (.var 0) .nil)) (.con (.int 10)))))) (.cons (.ret (.con (.bool false))) .nil) (.nil)) (.cons (.ret (.blt .all (.cons false (.comp [1, 2] (.tp (.cons (.nm 1) (.cons (.nm 2) .nil))) (.enum (.var 0)) (.nil) (.call 126 (.cons false (.var 2) (.cons false (.con (.int 0)) (.cons false (.bin .sub (.bin .sub (.blt .len (.cons false (.var 0) .nil)) (.con (.int 1))) (.var 1)) .nil))))) .nil))) .nil)
abbrev d_u_law_is_code : FD := ⟨3, 1, b_u_law_is_code, .nil⟩
def l_u_law_right : LLs := .cons 0 395 (.cons false (.var 7) .nil) (.cons 1 355 (.cons false (.var 7) .nil) (.cons 2 699 (.cons false (.var 7) .nil) (.cons 3 553 (.cons false (.var 7) .nil) (.nil))))
def b_u_law_right : CSs :=
  .cons (.asg (.nm 1) (.bin .add (.con (.int 1)) (.call 230 (.cons false (.var 0) (.cons false (.con (.int 10)) .nil))))) (.cons (.asg (.nm 2) (.call 195 (.cons false (.var 0) (.cons false (.var 1) .nil)))) (.cons (.asg (.nm 3) (.call 88 (.cons false (.var 2) .nil))) (.cons (.ite (.cmp .ne (.blt .repr (.cons false (.call 395 (.cons false (.var 2) .nil)) .nil)) (.blt .repr (.cons false (.blt .tuple (.cons false (.var 3) .nil)) .nil))) (.cons (.ret (.con (.bool false))) .nil) (.nil)) (.cons (.asg (.nm 4) (.blt .tuple (.cons false (.comp [12] (.nm 12) (.rng (.cons false (.var 1) .nil)) (.nil) (.blt .len (.cons false (.comp [16] (.nm 16) (.seq (.var 3)) (.cons false (.cmp .eq (.sub (.var 16) (.con (.int 0))) (.var 12)) .nil) (.var 16)) .nil))) .nil))) (.cons (.ite (.or (.cmp .ne (.blt .repr (.cons false (.call 355 (.cons false (.var 2) .nil)) .nil)) (.blt .repr (.cons false (.var 4) .nil))) (.one (.cmp .ne (.blt .repr (.cons false (.call 553 (.cons false (.var 4) .nil)) .nil)) (.blt .repr (.cons false (.var 2) .nil))))) (.cons (.ret (.con (.bool false))) .nil) (.nil)) (.cons (.asg (.nm 5) (.call 699 (.cons false (.var 2) .nil))) (.cons (.ite (.or (.cmp .ne (.blt .repr (.cons false (.var 5) .nil)) (.blt .repr (.cons false (.blt .tuple (.cons false (.comp [17] (.nm 17) (.rng (.cons false (.var 1) .nil)) (.nil) (.idx (.var 2) (.var 17))) .nil)) .nil))) (.or (.cmp .ne (.call 699 (.cons false (.var 5) .nil)) (.var 2)) (.one (.cmp .ne (.blt .len (.cons false (.call 395 (.cons false (.var 5) .nil)) .nil)) (.blt .len (.cons false (.var 3) .nil)))))) (.cons (.ret (.con (.bool false))) .nil) (.nil)) (.cons (.asg (.nm 6) (.blt .tuple (.cons false (.comp [13] (.nm 13) (.rng (.cons false (.var 1) .nil)) (.nil) (.call 230 (.cons false (.var 0) (.cons false (.bin .sub (.var 1) (.var 13)) .nil)))) .nil))) (.cons (.ite (.or (.cmp .ne (.call 355 (.cons false (.call 553 (.cons false (.var 6) .nil)) .nil)) (.var 6)) (.one (.cmp .ne (.blt .len (.cons false (.call 395 (.cons false (.call 553 (.cons false (.var 6) .nil)) .nil)) .nil)) (.blt .sum (.cons false (.var 6) .nil))))) (.cons (.ret (.con (.bool false))) .nil) (.nil)) (.cons (.for_ (.nm 7) (.seq (.bin .add (.lst (.cons false (.var 2) (.cons false (.blt .list (.cons false (.var 2) .nil)) (.cons false (.sl (.var 2) (.some (.con (.int 1))) .none) (.cons false (.bin .add (.var 2) (.tup (.cons false (.var 1) .nil))) (.cons false (.rev (.var 2)) (.cons false (.bin .mul (.tup (.cons false (.con (.int 0)) .nil)) (.var 1)) (.cons false (.con .none) (.cons false (.tup (.nil)) (.cons false (.trng (.cons false (.con (.int 11)) .nil)) (.cons false (.call 192 (.cons false (.var 0) .nil)) .nil))))))))))) (.comp [14] (.nm 14) (.rng (.cons false (.con (.int 4)) .nil)) (.nil) (.call 62 (.cons false (.var 0) (.cons false (.var 2) .nil)))))) (.cons (.asg (.nm 8) (.and (.isi .tup (.var 7)) (.and (.chain .le .le (.con (.int 1)) (.blt .len (.cons false (.var 7) .nil)) (.con (.int 10))) (.one (.call 144 (.cons false (.blt .len (.cons false (.var 7) .nil)) (.cons false (.var 7) .nil))))))) (.cons (.ite (.cmp .ne (.blt .repr (.cons false (.call 465 (.cons false (.var 7) .nil)) .nil)) (.blt .repr (.cons false (.var 8) .nil))) (.cons (.ret (.con (.bool false))) .nil) (.nil)) (.cons (.ite (.not (.var 8)) (.cons (.asgO 10 (.lst (.cons false (.lam 0) .nil))) (.cons (.app 10 (.lam 1)) (.cons (.app 10 (.lam 2)) (.cons (.asg (.nm 11) (.comp [15] (.nm 15) (.seq (.peek 10)) (.nil) (.sub (.cc 66 (.var 15) (.nil) l_u_law_right) (.con (.int 0))))) (.cons (.ite (.not (.blt .all (.cons false (.comp [18] (.nm 18) (.seq (.var 11)) (.nil) (.and (.excIs "BadOrder" (.var 18)) (.one (.cmp .eq (.blt .repr (.cons false (.excVal (.var 18)) .nil)) (.blt .repr (.cons false (.var 7) .nil)))))) .nil))) (.cons (.ret (.con (.bool false))) .nil) (.nil)) .nil))))) (.nil)) .nil)))) (.cons (.for_ (.nm 7) (.seq (.bin .add (.lst (.cons false (.blt .list (.cons false (.var 6) .nil)) (.cons false (.bin .add (.var 6) (.tup (.cons false (.con (.int 1)) .nil))) (.cons false (.bin .add (.sl (.var 6) .none (.some (.neg (.con (.int 1))))) (.tup (.cons false (.con (.int 1)) .nil))) (.cons false (.con .none) (.cons false (.tup (.nil)) (.cons false (.bin .mul (.tup (.cons false (.con (.int 0)) .nil)) (.con (.int 11))) (.cons false (.call 192 (.cons false (.var 0) .nil)) .nil)))))))) (.comp [14] (.nm 14) (.rng (.cons false (.con (.int 3)) .nil)) (.nil) (.call 62 (.cons false (.var 0) (.cons false (.var 6) .nil)))))) (.cons (.asg (.nm 9) (.sub (.cc 66 (.lam 3) (.nil) l_u_law_right) (.con (.int 0)))) (.cons (.ite (.or (.cmp .ne (.cmp .is (.var 9) (.con .none)) (.call 114 (.cons false (.var 7) .nil))) (.one (.and (.cmp .isnot (.var 9) (.con .none)) (.one (.or (.not (.excIs "BadCode" (.var 9))) (.one (.cmp .ne (.blt .repr (.cons false (.excVal (.var 9)) .nil)) (.blt .repr (.cons false (.var 7) .nil))))))))) (.cons (.ret (.con (.bool false))) .nil) (.nil)) .nil))) (.cons (.ret (.con (.bool true))) .nil))))))))))))
abbrev d_u_law_right : FD := ⟨19, 1, b_u_law_right, l_u_law_right⟩
def b_law : CSs :=
  .cons (.for_ (.nm 1) (.seq (.call 67 (.cons false (.var 0) (.cons false (.con (.int 3)) .nil)))) (.cons (.asgO 2 (.call 204 (.cons false (.var 0) (.cons false (.var 1) .nil)))) (.cons (.mkcell 2) (.cons (.ite (.not (.blt .all (.cons false (.comp [3] (.nm 3) (.rng (.cons false (.con (.int 8)) .nil)) (.nil) (.call 208 (.cons false (.var 2) .nil))) .nil))) (.cons (.ret (.con (.bool false))) .nil) (.nil)) .nil)))) (.cons (.ret (.con (.bool true))) .nil)
abbrev d_law : FD := ⟨4, 1, b_law, .nil⟩
structure H_is_integer (P : Nat → Option FD) : Prop where
  p : P 455 = some d_is_integer
structure H_is_between (P : Nat → Option FD) : Prop where
  p : P 449 = some d_is_between
  is_integer : H_is_integer P
structure H_are_between (P : Nat → Option FD) : Prop where
  p : P 261 = some d_are_between
  is_between : H_is_between P
structure H_is_order_of (P : Nat → Option FD) : Prop where
  p : P 466 = some d_is_order_of
  are_between : H_are_between P
structure H_is_order (P : Nat → Option FD) : Prop where
  p : P 465 = some d_is_order
  is_between : H_is_between P
  is_order_of : H_is_order_of P
structure H_check_order (P : Nat → Option FD) : Prop where
  p : P 319 = some d_check_order
  is_order : H_is_order P
structure H_falls_of (P : Nat → Option FD) : Prop where
  p : P 396 = some d_falls_of
structure H_falls (P : Nat → Option FD) : Prop where
  p : P 395 = some d_falls
  check_order : H_check_order P
  falls_of : H_falls_of P
structure H_code (P : Nat → Option FD) : Prop where
  p : P 355 = some d_code
  check_order : H_check_order P
  falls_of : H_falls_of P
structure H_is_code (P : Nat → Option FD) : Prop where
  p : P 451 = some d_is_code
  is_between : H_is_between P
structure H_order_of (P : Nat → Option FD) : Prop where
  p : P 553 = some d_order_of
  is_code : H_is_code P
structure H_turn (P : Nat → Option FD) : Prop where
  p : P 697 = some d_turn
structure H_turned (P : Nat → Option FD) : Prop where
  p : P 699 = some d_turned
  check_order : H_check_order P
  turn : H_turn P
structure H_u_law_pot (P : Nat → Option FD) : Prop where
  p : P 204 = some d_u_law_pot
structure H_u_law_take (P : Nat → Option FD) : Prop where
  p : P 230 = some d_u_law_take
structure H_u_law_of (P : Nat → Option FD) : Prop where
  p : P 193 = some d_u_law_of
  u_law_take : H_u_law_take P
structure H_u_law_some (P : Nat → Option FD) : Prop where
  p : P 219 = some d_u_law_some
  u_law_take : H_u_law_take P
structure H_u_law_cells (P : Nat → Option FD) : Prop where
  p : P 67 = some d_u_law_cells
structure H_u_law_is_int (P : Nat → Option FD) : Prop where
  p : P 126 = some d_u_law_is_int
structure H_u_law_odd (P : Nat → Option FD) : Prop where
  p : P 192 = some d_u_law_odd
  u_law_of : H_u_law_of P
structure H_u_law_bent (P : Nat → Option FD) : Prop where
  p : P 62 = some d_u_law_bent
  u_law_is_int : H_u_law_is_int P
  u_law_odd : H_u_law_odd P
  u_law_take : H_u_law_take P
  u_law_of : H_u_law_of P
structure H_u_law_caught (P : Nat → Option FD) : Prop where
  p : P 66 = some d_u_law_caught
structure H_u_law_falls (P : Nat → Option FD) : Prop where
  p : P 88 = some d_u_law_falls
structure H_u_law_order (P : Nat → Option FD) : Prop where
  p : P 195 = some d_u_law_order
  u_law_some : H_u_law_some P
structure H_u_law_is_order (P : Nat → Option FD) : Prop where
  p : P 144 = some d_u_law_is_order
  u_law_is_int : H_u_law_is_int P
structure H_u_law_is_code (P : Nat → Option FD) : Prop where
  p : P 114 = some d_u_law_is_code
  u_law_is_int : H_u_law_is_int P
structure H_u_law_right (P : Nat → Option FD) : Prop where
  p : P 208 = some d_u_law_right
  u_law_order : H_u_law_order P
  u_law_falls : H_u_law_falls P
  turned : H_turned P
  u_law_take : H_u_law_take P
  falls : H_falls P
  code : H_code P
  u_law_odd : H_u_law_odd P
  u_law_bent : H_u_law_bent P
  u_law_is_order : H_u_law_is_order P
  u_law_caught : H_u_law_caught P
  order_of : H_order_of P
  is_order : H_is_order P
  u_law_is_code : H_u_law_is_code P
def progL : List (Nat × FD) := [(455, d_is_integer), (449, d_is_between), (261, d_are_between), (466, d_is_order_of), (465, d_is_order), (319, d_check_order), (396, d_falls_of), (395, d_falls), (355, d_code), (451, d_is_code), (553, d_order_of), (697, d_turn), (699, d_turned), (204, d_u_law_pot), (230, d_u_law_take), (193, d_u_law_of), (219, d_u_law_some), (67, d_u_law_cells), (126, d_u_law_is_int), (192, d_u_law_odd), (62, d_u_law_bent), (66, d_u_law_caught), (88, d_u_law_falls), (195, d_u_law_order), (144, d_u_law_is_order), (114, d_u_law_is_code), (208, d_u_law_right)]
def prog : Nat → Option FD := fun f => progL.lookup f
theorem h_is_integer : H_is_integer prog := ⟨rfl⟩
theorem h_is_between : H_is_between prog := ⟨rfl, h_is_integer⟩
theorem h_are_between : H_are_between prog := ⟨rfl, h_is_between⟩
theorem h_is_order_of : H_is_order_of prog := ⟨rfl, h_are_between⟩
theorem h_is_order : H_is_order prog := ⟨rfl, h_is_between, h_is_order_of⟩
theorem h_check_order : H_check_order prog := ⟨rfl, h_is_order⟩
theorem h_falls_of : H_falls_of prog := ⟨rfl⟩
theorem h_falls : H_falls prog := ⟨rfl, h_check_order, h_falls_of⟩
theorem h_code : H_code prog := ⟨rfl, h_check_order, h_falls_of⟩
theorem h_is_code : H_is_code prog := ⟨rfl, h_is_between⟩
theorem h_order_of : H_order_of prog := ⟨rfl, h_is_code⟩
theorem h_turn : H_turn prog := ⟨rfl⟩
theorem h_turned : H_turned prog := ⟨rfl, h_check_order, h_turn⟩
theorem h_u_law_pot : H_u_law_pot prog := ⟨rfl⟩
theorem h_u_law_take : H_u_law_take prog := ⟨rfl⟩
theorem h_u_law_of : H_u_law_of prog := ⟨rfl, h_u_law_take⟩
theorem h_u_law_some : H_u_law_some prog := ⟨rfl, h_u_law_take⟩
theorem h_u_law_cells : H_u_law_cells prog := ⟨rfl⟩
theorem h_u_law_is_int : H_u_law_is_int prog := ⟨rfl⟩
theorem h_u_law_odd : H_u_law_odd prog := ⟨rfl, h_u_law_of⟩
theorem h_u_law_bent : H_u_law_bent prog := ⟨rfl, h_u_law_is_int, h_u_law_odd, h_u_law_take, h_u_law_of⟩
theorem h_u_law_caught : H_u_law_caught prog := ⟨rfl⟩
theorem h_u_law_falls : H_u_law_falls prog := ⟨rfl⟩
theorem h_u_law_order : H_u_law_order prog := ⟨rfl, h_u_law_some⟩
theorem h_u_law_is_order : H_u_law_is_order prog := ⟨rfl, h_u_law_is_int⟩
theorem h_u_law_is_code : H_u_law_is_code prog := ⟨rfl, h_u_law_is_int⟩
theorem h_u_law_right : H_u_law_right prog := ⟨rfl, h_u_law_order, h_u_law_falls, h_turned, h_u_law_take, h_falls, h_code, h_u_law_odd, h_u_law_bent, h_u_law_is_order, h_u_law_caught, h_order_of, h_is_order, h_u_law_is_code⟩
abbrev prg : Program := PySem.Challenge.pw_everyrungdown_k40_whole_orders_falls_and
def top (i : Nat) : Stmt := prg.main.body.getD i (.Pass ⟨0, 0, 0, 0⟩)
def dd (x : Str) (i : Nat) : He.DefD := ⟨(x, none), x, x, defArgs (top i), defBody (top i), defScope (top i), [], []⟩
def da (x y : Str) (i : Nat) : He.DefD := ⟨(x, none), y, y, defArgs (top i), defBody (top i), defScope (top i), [], []⟩
def fn : List He.DefD := [dd "is_integer" 5, dd "is_between" 6, dd "are_between" 7, dd "is_order_of" 10, dd "is_order" 11, dd "check_order" 12, dd "falls_of" 13, dd "falls" 14, dd "code" 15, dd "is_code" 16, dd "order_of" 17, dd "turn" 18, dd "turned" 19, dd "_law_pot" 21, dd "_law_take" 22, dd "_law_of" 23, dd "_law_some" 24, dd "_law_cells" 25, dd "_law_is_int" 26, dd "_law_odd" 27, dd "_law_bent" 28, dd "_law_caught" 29, dd "_law_falls" 30, dd "_law_order" 31, dd "_law_is_order" 32, dd "_law_is_code" 33, dd "_law_right" 34, dd "law" 35]
def fa : List He.Fa := [.free "len", .free "abs", .free "max", .free "min", .free "int", .free "str", .free "repr", .free "tuple", .free "list", .free "sorted", .free "sum", .free "all", .free "any", .free "isinstance", .free "bool", .free "range", .free "enumerate", .free "zip", .free "set", .free "super", .glo "is_integer", .glo "is_between", .glo "are_between", .glo "is_order_of", .glo "is_order", .glo "check_order", .glo "falls_of", .glo "falls", .glo "code", .glo "is_code", .glo "order_of", .glo "turn", .glo "turned", .glo "_law_pot", .glo "_law_take", .glo "_law_of", .glo "_law_some", .glo "_law_cells", .glo "_law_is_int", .glo "_law_odd", .glo "_law_bent", .glo "_law_caught", .glo "_law_falls", .glo "_law_order", .glo "_law_is_order", .glo "_law_is_code", .glo "_law_right", .glo "law", .glo "BadOrder", .glo "BadCode", .glo "RungError", .int "MOST_TRACKS" (10)]
def ers : List Str := ["BadOrder", "BadCode"]
def lms : List Str := ["_law_right"]
def G : Ga := ⟨[], [((455, "is_integer") : Nat × Str), ((449, "is_between") : Nat × Str), ((261, "are_between") : Nat × Str), ((466, "is_order_of") : Nat × Str), ((465, "is_order") : Nat × Str), ((319, "check_order") : Nat × Str), ((396, "falls_of") : Nat × Str), ((395, "falls") : Nat × Str), ((355, "code") : Nat × Str), ((451, "is_code") : Nat × Str), ((553, "order_of") : Nat × Str), ((697, "turn") : Nat × Str), ((699, "turned") : Nat × Str), ((204, "_law_pot") : Nat × Str), ((230, "_law_take") : Nat × Str), ((193, "_law_of") : Nat × Str), ((219, "_law_some") : Nat × Str), ((67, "_law_cells") : Nat × Str), ((126, "_law_is_int") : Nat × Str), ((192, "_law_odd") : Nat × Str), ((62, "_law_bent") : Nat × Str), ((88, "_law_falls") : Nat × Str), ((195, "_law_order") : Nat × Str), ((144, "_law_is_order") : Nat × Str), ((114, "_law_is_code") : Nat × Str), ((208, "_law_right") : Nat × Str)], [("MOST_TRACKS", (.int 10))], [], ers, [((66, "_law_caught") : Nat × Str)], [], .nil⟩
def tb : Tb := []
theorem e_is_integer : EntOk G prog fa fn lms 455 "is_integer" "is_integer" (top 5) d_is_integer ["value"] ["value"] 0 20 :=
  ⟨rfl, rfl, rfl, ⟨rfl, rfl, rfl, by decide +kernel, rfl, by decide +kernel, by decide +kernel⟩, by kernel_rfl, .inl rfl, rfl, rfl, fun _ _ _ _ _ _ us hl => match us, hl with | [u0], _ => rfl, fun q h => by cases (show q ∈ ([] : List (Nat × List Str × List Nat)) from h)⟩
theorem e_is_between : EntOk G prog fa fn lms 449 "is_between" "is_between" (top 6) d_is_between ["value", "low", "high"] ["value", "low", "high"] 1 21 :=
  ⟨rfl, rfl, rfl, ⟨rfl, rfl, rfl, by decide +kernel, rfl, by decide +kernel, by decide +kernel⟩, by kernel_rfl, .inl rfl, rfl, rfl, fun _ _ _ _ _ _ us hl => match us, hl with | [u0, u1, u2], _ => rfl, fun q h => by cases (show q ∈ ([] : List (Nat × List Str × List Nat)) from h)⟩
theorem e_are_between : EntOk G prog fa fn lms 261 "are_between" "are_between" (top 7) d_are_between ["value", "low", "high", "one"] ["value", "low", "high"] 2 22 :=
  ⟨rfl, rfl, rfl, ⟨rfl, rfl, rfl, by decide +kernel, rfl, by decide +kernel, by decide +kernel⟩, by kernel_rfl, .inl rfl, rfl, rfl, fun _ _ _ _ _ _ us hl => match us, hl with | [u0, u1, u2], _ => rfl, fun q h => by cases (show q ∈ ([] : List (Nat × List Str × List Nat)) from h)⟩
theorem e_is_order_of : EntOk G prog fa fn lms 466 "is_order_of" "is_order_of" (top 10) d_is_order_of ["many", "value"] ["many", "value"] 3 23 :=
  ⟨rfl, rfl, rfl, ⟨rfl, rfl, rfl, by decide +kernel, rfl, by decide +kernel, by decide +kernel⟩, by kernel_rfl, .inl rfl, rfl, rfl, fun _ _ _ _ _ _ us hl => match us, hl with | [u0, u1], _ => rfl, fun q h => by cases (show q ∈ ([] : List (Nat × List Str × List Nat)) from h)⟩
theorem e_is_order : EntOk G prog fa fn lms 465 "is_order" "is_order" (top 11) d_is_order ["value"] ["value"] 4 24 :=
  ⟨rfl, rfl, rfl, ⟨rfl, rfl, rfl, by decide +kernel, rfl, by decide +kernel, by decide +kernel⟩, by kernel_rfl, .inl rfl, rfl, rfl, fun _ _ _ _ _ _ us hl => match us, hl with | [u0], _ => rfl, fun q h => by cases (show q ∈ ([] : List (Nat × List Str × List Nat)) from h)⟩
theorem e_check_order : EntOk G prog fa fn lms 319 "check_order" "check_order" (top 12) d_check_order ["value"] ["value"] 5 25 :=
  ⟨rfl, rfl, rfl, ⟨rfl, rfl, rfl, by decide +kernel, rfl, by decide +kernel, by decide +kernel⟩, by kernel_rfl, .inl rfl, rfl, rfl, fun _ _ _ _ _ _ us hl => match us, hl with | [u0], _ => rfl, fun q h => by cases (show q ∈ ([] : List (Nat × List Str × List Nat)) from h)⟩
theorem e_falls_of : EntOk G prog fa fn lms 396 "falls_of" "falls_of" (top 13) d_falls_of ["order", "found", "one", "number", "other"] ["order"] 6 26 :=
  ⟨rfl, rfl, rfl, ⟨rfl, rfl, rfl, by decide +kernel, rfl, by decide +kernel, by decide +kernel⟩, by kernel_rfl, .inl rfl, rfl, rfl, fun _ _ _ _ _ _ us hl => match us, hl with | [u0], _ => rfl, fun q h => by cases (show q ∈ ([] : List (Nat × List Str × List Nat)) from h)⟩
theorem e_falls : EntOk G prog fa fn lms 395 "falls" "falls" (top 14) d_falls ["order"] ["order"] 7 27 :=
  ⟨rfl, rfl, rfl, ⟨rfl, rfl, rfl, by decide +kernel, rfl, by decide +kernel, by decide +kernel⟩, by kernel_rfl, .inl rfl, rfl, rfl, fun _ _ _ _ _ _ us hl => match us, hl with | [u0], _ => rfl, fun q h => by cases (show q ∈ ([] : List (Nat × List Str × List Nat)) from h)⟩
theorem e_code : EntOk G prog fa fn lms 355 "code" "code" (top 15) d_code ["order", "some", "one", "other", "track"] ["order"] 8 28 :=
  ⟨rfl, rfl, rfl, ⟨rfl, rfl, rfl, by decide +kernel, rfl, by decide +kernel, by decide +kernel⟩, by kernel_rfl, .inl rfl, rfl, rfl, fun _ _ _ _ _ _ us hl => match us, hl with | [u0], _ => rfl, fun q h => by cases (show q ∈ ([] : List (Nat × List Str × List Nat)) from h)⟩
theorem e_is_code : EntOk G prog fa fn lms 451 "is_code" "is_code" (top 16) d_is_code ["value", "place", "one"] ["value"] 9 29 :=
  ⟨rfl, rfl, rfl, ⟨rfl, rfl, rfl, by decide +kernel, rfl, by decide +kernel, by decide +kernel⟩, by kernel_rfl, .inl rfl, rfl, rfl, fun _ _ _ _ _ _ us hl => match us, hl with | [u0], _ => rfl, fun q h => by cases (show q ∈ ([] : List (Nat × List Str × List Nat)) from h)⟩
theorem e_order_of : EntOk G prog fa fn lms 553 "order_of" "order_of" (top 17) d_order_of ["code", "number", "left", "found"] ["code"] 10 30 :=
  ⟨rfl, rfl, rfl, ⟨rfl, rfl, rfl, by decide +kernel, rfl, by decide +kernel, by decide +kernel⟩, by kernel_rfl, .inl rfl, rfl, rfl, fun _ _ _ _ _ _ us hl => match us, hl with | [u0], _ => rfl, fun q h => by cases (show q ∈ ([] : List (Nat × List Str × List Nat)) from h)⟩
theorem e_turn : EntOk G prog fa fn lms 697 "turn" "turn" (top 18) d_turn ["order", "number"] ["order"] 11 31 :=
  ⟨rfl, rfl, rfl, ⟨rfl, rfl, rfl, by decide +kernel, rfl, by decide +kernel, by decide +kernel⟩, by kernel_rfl, .inl rfl, rfl, rfl, fun _ _ _ _ _ _ us hl => match us, hl with | [u0], _ => rfl, fun q h => by cases (show q ∈ ([] : List (Nat × List Str × List Nat)) from h)⟩
theorem e_turned : EntOk G prog fa fn lms 699 "turned" "turned" (top 19) d_turned ["order"] ["order"] 12 32 :=
  ⟨rfl, rfl, rfl, ⟨rfl, rfl, rfl, by decide +kernel, rfl, by decide +kernel, by decide +kernel⟩, by kernel_rfl, .inl rfl, rfl, rfl, fun _ _ _ _ _ _ us hl => match us, hl with | [u0], _ => rfl, fun q h => by cases (show q ∈ ([] : List (Nat × List Str × List Nat)) from h)⟩
theorem e_u_law_pot : EntOk G prog fa fn lms 204 "_law_pot" "_law_pot" (top 21) d_u_law_pot ["script", "place", "cell", "own", "small"] ["script", "place"] 13 33 :=
  ⟨rfl, rfl, rfl, ⟨rfl, rfl, rfl, by decide +kernel, rfl, by decide +kernel, by decide +kernel⟩, by kernel_rfl, .inl rfl, rfl, rfl, fun _ _ _ _ _ _ us hl => match us, hl with | [u0, u1], _ => rfl, fun q h => by cases (show q ∈ ([] : List (Nat × List Str × List Nat)) from h)⟩
theorem e_u_law_take : EntOk G prog fa fn lms 230 "_law_take" "_law_take" (top 22) d_u_law_take ["pot", "upto", "prime", "blend", "digit"] ["pot", "upto"] 14 34 :=
  ⟨rfl, rfl, rfl, ⟨rfl, rfl, rfl, by decide +kernel, rfl, by decide +kernel, by decide +kernel⟩, by kernel_rfl, .inl rfl, rfl, rfl, fun _ _ _ _ _ _ us hl => match us, hl with | [u0, u1], _ => rfl, fun q h => by cases (show q ∈ ([] : List (Nat × List Str × List Nat)) from h)⟩
theorem e_u_law_of : EntOk G prog fa fn lms 193 "_law_of" "_law_of" (top 23) d_u_law_of ["pot", "some"] ["pot", "some"] 15 35 :=
  ⟨rfl, rfl, rfl, ⟨rfl, rfl, rfl, by decide +kernel, rfl, by decide +kernel, by decide +kernel⟩, by kernel_rfl, .inl rfl, rfl, rfl, fun _ _ _ _ _ _ us hl => match us, hl with | [u0, u1], _ => rfl, fun q h => by cases (show q ∈ ([] : List (Nat × List Str × List Nat)) from h)⟩
theorem e_u_law_some : EntOk G prog fa fn lms 219 "_law_some" "_law_some" (top 24) d_u_law_some ["pot", "some", "many", "lap", "left", "found"] ["pot", "some", "many"] 16 36 :=
  ⟨rfl, rfl, rfl, ⟨rfl, rfl, rfl, by decide +kernel, rfl, by decide +kernel, by decide +kernel⟩, by kernel_rfl, .inl rfl, rfl, rfl, fun _ _ _ _ _ _ us hl => match us, hl with | [u0, u1, u2], _ => rfl, fun q h => by cases (show q ∈ ([] : List (Nat × List Str × List Nat)) from h)⟩
theorem e_u_law_cells : EntOk G prog fa fn lms 67 "_law_cells" "_law_cells" (top 25) d_u_law_cells ["script", "most"] ["script", "most"] 17 37 :=
  ⟨rfl, rfl, rfl, ⟨rfl, rfl, rfl, by decide +kernel, rfl, by decide +kernel, by decide +kernel⟩, by kernel_rfl, .inl rfl, rfl, rfl, fun _ _ _ _ _ _ us hl => match us, hl with | [u0, u1], _ => rfl, fun q h => by cases (show q ∈ ([] : List (Nat × List Str × List Nat)) from h)⟩
theorem e_u_law_is_int : EntOk G prog fa fn lms 126 "_law_is_int" "_law_is_int" (top 26) d_u_law_is_int ["value", "low", "high"] ["value", "low", "high"] 18 38 :=
  ⟨rfl, rfl, rfl, ⟨rfl, rfl, rfl, by decide +kernel, rfl, by decide +kernel, by decide +kernel⟩, by kernel_rfl, .inl rfl, rfl, rfl, fun _ _ _ _ _ _ us hl => match us, hl with | [u0, u1, u2], _ => rfl, fun q h => by cases (show q ∈ ([] : List (Nat × List Str × List Nat)) from h)⟩
theorem e_u_law_odd : EntOk G prog fa fn lms 192 "_law_odd" "_law_odd" (top 27) d_u_law_odd ["pot", "some"] ["pot"] 19 39 :=
  ⟨rfl, rfl, rfl, ⟨rfl, rfl, rfl, by decide +kernel, rfl, by decide +kernel, by decide +kernel⟩, by kernel_rfl, .inl rfl, rfl, rfl, fun _ _ _ _ _ _ us hl => match us, hl with | [u0], _ => rfl, fun q h => by cases (show q ∈ ([] : List (Nat × List Str × List Nat)) from h)⟩
theorem e_u_law_bent : EntOk G prog fa fn lms 62 "_law_bent" "_law_bent" (top 28) d_u_law_bent ["pot", "value", "at", "row"] ["pot", "value"] 20 40 :=
  ⟨rfl, rfl, rfl, ⟨rfl, rfl, rfl, by decide +kernel, rfl, by decide +kernel, by decide +kernel⟩, by kernel_rfl, .inl rfl, rfl, rfl, fun _ _ _ _ _ _ us hl => match us, hl with | [u0, u1], _ => rfl, fun q h => by cases (show q ∈ ([] : List (Nat × List Str × List Nat)) from h)⟩
theorem e_u_law_caught : FcOk prog fa fn 66 "_law_caught" (top 29) d_u_law_caught ["look", "caught", "back", "error"] ["look"] 21 41 false :=
  ⟨rfl, rfl, rfl, ⟨rfl, rfl, rfl, by decide +kernel, rfl, by decide +kernel, by decide +kernel⟩, by kernel_rfl, rfl, rfl, rfl, rfl, fun _ _ _ _ _ _ us hl => match us, hl with | [u0], _ => rfl⟩
theorem e_u_law_falls : EntOk G prog fa fn lms 88 "_law_falls" "_law_falls" (top 30) d_u_law_falls ["order", "found", "one", "other"] ["order"] 22 42 :=
  ⟨rfl, rfl, rfl, ⟨rfl, rfl, rfl, by decide +kernel, rfl, by decide +kernel, by decide +kernel⟩, by kernel_rfl, .inl rfl, rfl, rfl, fun _ _ _ _ _ _ us hl => match us, hl with | [u0], _ => rfl, fun q h => by cases (show q ∈ ([] : List (Nat × List Str × List Nat)) from h)⟩
theorem e_u_law_order : EntOk G prog fa fn lms 195 "_law_order" "_law_order" (top 31) d_u_law_order ["pot", "many"] ["pot", "many"] 23 43 :=
  ⟨rfl, rfl, rfl, ⟨rfl, rfl, rfl, by decide +kernel, rfl, by decide +kernel, by decide +kernel⟩, by kernel_rfl, .inl rfl, rfl, rfl, fun _ _ _ _ _ _ us hl => match us, hl with | [u0, u1], _ => rfl, fun q h => by cases (show q ∈ ([] : List (Nat × List Str × List Nat)) from h)⟩
theorem e_u_law_is_order : EntOk G prog fa fn lms 144 "_law_is_order" "_law_is_order" (top 32) d_u_law_is_order ["many", "value", "one"] ["many", "value"] 24 44 :=
  ⟨rfl, rfl, rfl, ⟨rfl, rfl, rfl, by decide +kernel, rfl, by decide +kernel, by decide +kernel⟩, by kernel_rfl, .inl rfl, rfl, rfl, fun _ _ _ _ _ _ us hl => match us, hl with | [u0, u1], _ => rfl, fun q h => by cases (show q ∈ ([] : List (Nat × List Str × List Nat)) from h)⟩
theorem e_u_law_is_code : EntOk G prog fa fn lms 114 "_law_is_code" "_law_is_code" (top 33) d_u_law_is_code ["value", "place", "one"] ["value"] 25 45 :=
  ⟨rfl, rfl, rfl, ⟨rfl, rfl, rfl, by decide +kernel, rfl, by decide +kernel, by decide +kernel⟩, by kernel_rfl, .inl rfl, rfl, rfl, fun _ _ _ _ _ _ us hl => match us, hl with | [u0], _ => rfl, fun q h => by cases (show q ∈ ([] : List (Nat × List Str × List Nat)) from h)⟩
theorem e_u_law_right : EntOk G prog fa fn lms 208 "_law_right" "_law_right" (top 34) d_u_law_right ["pot", "many", "order", "some", "own", "other", "row", "value", "is_fine", "caught", "looks", "errors", "track", "place", "lap", "look", "fall", "number", "error"] ["pot"] 26 46 :=
  ⟨rfl, rfl, rfl, ⟨rfl, rfl, rfl, by decide +kernel, rfl, by decide +kernel, by decide +kernel⟩, by kernel_rfl, .inr ⟨by decide +kernel, rfl⟩, rfl, rfl, fun _ _ _ _ _ _ us hl => match us, hl with | [u0], _ => rfl, fun q h => by cases (show q ∈ ([] : List (Nat × List Str × List Nat)) from h)⟩
theorem allE : AllE G prog fa fn lms G.fn := ⟨⟨_, _, _, _, _, _, _, e_is_integer⟩, ⟨_, _, _, _, _, _, _, e_is_between⟩, ⟨_, _, _, _, _, _, _, e_are_between⟩, ⟨_, _, _, _, _, _, _, e_is_order_of⟩, ⟨_, _, _, _, _, _, _, e_is_order⟩, ⟨_, _, _, _, _, _, _, e_check_order⟩, ⟨_, _, _, _, _, _, _, e_falls_of⟩, ⟨_, _, _, _, _, _, _, e_falls⟩, ⟨_, _, _, _, _, _, _, e_code⟩, ⟨_, _, _, _, _, _, _, e_is_code⟩, ⟨_, _, _, _, _, _, _, e_order_of⟩, ⟨_, _, _, _, _, _, _, e_turn⟩, ⟨_, _, _, _, _, _, _, e_turned⟩, ⟨_, _, _, _, _, _, _, e_u_law_pot⟩, ⟨_, _, _, _, _, _, _, e_u_law_take⟩, ⟨_, _, _, _, _, _, _, e_u_law_of⟩, ⟨_, _, _, _, _, _, _, e_u_law_some⟩, ⟨_, _, _, _, _, _, _, e_u_law_cells⟩, ⟨_, _, _, _, _, _, _, e_u_law_is_int⟩, ⟨_, _, _, _, _, _, _, e_u_law_odd⟩, ⟨_, _, _, _, _, _, _, e_u_law_bent⟩, ⟨_, _, _, _, _, _, _, e_u_law_falls⟩, ⟨_, _, _, _, _, _, _, e_u_law_order⟩, ⟨_, _, _, _, _, _, _, e_u_law_is_order⟩, ⟨_, _, _, _, _, _, _, e_u_law_is_code⟩, ⟨_, _, _, _, _, _, _, e_u_law_right⟩, trivial⟩
theorem allF : AllF prog fa fn G.fc := ⟨⟨_, _, _, _, _, _, _, e_u_law_caught⟩, trivial⟩
theorem allC : AllC fa tb G.cn := ⟨.inl ⟨51, _, rfl, rfl⟩, trivial⟩
theorem allB : ∀ x ∈ bltNames, ∃ j : Nat, fa[j]? = some (.free x) := by
  intro x hx
  simp only [bltNames, List.mem_cons, List.not_mem_nil, or_false] at hx
  rcases hx with rfl | rfl | rfl | rfl | rfl | rfl | rfl | rfl | rfl | rfl | rfl | rfl | rfl | rfl | rfl | rfl | rfl | rfl | rfl
  · exact ⟨0, rfl⟩
  · exact ⟨1, rfl⟩
  · exact ⟨2, rfl⟩
  · exact ⟨3, rfl⟩
  · exact ⟨4, rfl⟩
  · exact ⟨5, rfl⟩
  · exact ⟨6, rfl⟩
  · exact ⟨7, rfl⟩
  · exact ⟨8, rfl⟩
  · exact ⟨9, rfl⟩
  · exact ⟨10, rfl⟩
  · exact ⟨11, rfl⟩
  · exact ⟨12, rfl⟩
  · exact ⟨13, rfl⟩
  · exact ⟨14, rfl⟩
  · exact ⟨15, rfl⟩
  · exact ⟨16, rfl⟩
  · exact ⟨17, rfl⟩
  · exact ⟨18, rfl⟩
def iv : Ini := iniV ⟨4, 17, 4, 21⟩ ⟨4, 23, 4, 28⟩ ⟨5, 8, 5, 13⟩ ⟨5, 8, 5, 15⟩ ⟨5, 8, 5, 24⟩ ⟨5, 25, 5, 30⟩ ⟨5, 8, 5, 31⟩ ⟨5, 8, 5, 31⟩ ⟨6, 8, 6, 12⟩ ⟨6, 8, 6, 18⟩ ⟨6, 21, 6, 26⟩ ⟨6, 8, 6, 26⟩
theorem lawX : LawX prg G prog fa fn tb ers lms prg.main.file iv :=
  ⟨allB, allC, allE, allF, rfl, rfl, big_of (by kernel_rfl), ⟨19, rfl⟩, fun c hc => by
    have hc : c ∈ (["BadOrder", "BadCode"] : List Str) := hc
    simp only [List.mem_cons, List.not_mem_nil, or_false] at hc
    rcases hc with rfl | rfl
    · exact ⟨48, rfl⟩
    · exact ⟨49, rfl⟩, fun _ => ⟨50, rfl⟩, rfl, by kernel_rfl, fun _ => ⟨_, _, _, _, _, _, _, _, _, _, _, _, rfl, rfl⟩⟩
def loose : List Str := (["__name__", "RungError", "BadCode", "BadOrder", "is_integer", "is_between", "are_between", "MOST_TRACKS", "is_order_of", "is_order", "check_order", "falls_of", "falls", "code", "is_code", "order_of", "turn", "turned", "_law_pot", "_law_take", "_law_of", "_law_some", "_law_cells", "_law_is_int", "_law_odd", "_law_bent", "_law_caught", "_law_falls", "_law_order", "_law_is_order"] : List Str) ++ (["_law_is_code", "_law_right"] : List Str)
abbrev R : PySem.W.OpenRow := PySem.W.OpenLaw.row PySem.Challenge.rw_everyrungdown_k40_whole_orders_falls_and
abbrev hk : PySem.W.Hook := hookX 6 fa fn tb ers lms prg.main.file iv
def ob (s : PySem.W.SharedT) : Bool × He.AlD × Ini := obsX 6 fa fn tb ers lms prg.main.file (HandSHeadRun.getT s)
theorem ob_eq (s : PySem.W.SharedT) : ob s = hk.obs s.abs := obsX_eq (HandSHeadRun.getT_eq s)
theorem run (w : World) : HandSHeadRun.RunEq R (PySem.W.view R.prog [35]) hk ob 4000 loose w := by
  intro os
  kernel_rfl
def KK : Nat := 17
def WW : Nat := 1000
theorem facts {w : World} {K K2 : PySem.W.Frag} {h : Heap} {mg : Str → Option Value} {f : Addr} (hS : SaysX fa fn tb ers lms prg.main.file iv K K2 h) (hn : h.Ns mainGlobals mg) (hf : mg ("law" : Str) = some (.ref f))
    (pl : ∀ ns : List Int, ns.length ≤ 63 → ∃ st', evSs (evF prog WW 17) WW b_law (initE 4 [.list (ns.map .int)]) [] = some (.rt (.v (.bool true)) st')) :
    ∃ (K : PySem.W.Frag) (cs : List (Addr × Addr)) (fd : FuncData) (sp : Sp), K.In h ∧ TbS K h cs ∧ (∀ (s : Shared) (u : Value), BindsTo s fd ⟨[u], []⟩ [("script", u)]) ∧
      (∀ (H : Hp) (a : Addr) (ns : List Int), ns.length ≤ 63 → SqL K H a (ns.map V.int) → (∀ p ∈ cs, H p.2 = some (.tbl #[])) → sp [.ref a] H (fun v _ => v = .bl true) fun _ _ _ => False) ∧ ∀ base : Heap, K.In base → base.Ns mainGlobals mg → (∀ p ∈ cs, LamX.TabB base mg p.1 p.2) → FnG prg w K mg base (17 + 1) f fd ["script"] sp :=
  law_of (P := prg) (w := w) (prog := prog) (G := G) (W := WW) (k := 17) (n := 63) (d := d_law) (st := top 35) (N := ["script", "place", "pot", "lap"]) (i := 27) (j := 47) hS hn lawX hf rfl rfl ⟨rfl, rfl, rfl, by decide +kernel, rfl, by decide +kernel, by decide +kernel⟩ (by kernel_rfl) (.inl rfl) rfl (fun _ _ _ _ _ _ us hl => match us, hl with | [u0], _ => rfl) pl
end Ev.Lw
set_option maxHeartbeats 4000000
namespace Ev.Lw
open PySem Ev
section
/-! ### data of this program -/
section
/-- no cell -/
def nd : D → Bool
  | .dict ((.none, _) :: _) => false
  | _ => true
theorem is_dct {t : Ty} {kvs : List (D × D)} (h : nd (.dict kvs) = true) : isi t (.dict kvs) = some false := by
  cases kvs with
  | nil => cases t <;> rfl
  | cons p r =>
    obtain ⟨x, y⟩ := p
    cases x <;> first | (cases h; done) | (cases t <;> rfl)
@[simp] theorem nd_n : nd .none = true := (rfl)
@[simp] theorem nd_b {b : Bool} : nd (.bool b) = true := (rfl)
@[simp] theorem nd_i {i : Int} : nd (.int i) = true := (rfl)
@[simp] theorem nd_s {x : Str} : nd (.str x) = true := (rfl)
@[simp] theorem nd_t {xs : List D} : nd (.tuple xs) = true := (rfl)
@[simp] theorem nd_l {xs : List D} : nd (.list xs) = true := (rfl)
def isI : D → Bool
  | .int _ => true
  | _ => false
@[simp] theorem isI_n : isI .none = false := (rfl)
@[simp] theorem isI_b {b : Bool} : isI (.bool b) = false := (rfl)
@[simp] theorem isI_i {i : Int} : isI (.int i) = true := (rfl)
@[simp] theorem isI_s {x : Str} : isI (.str x) = false := (rfl)
@[simp] theorem isI_t {xs : List D} : isI (.tuple xs) = false := (rfl)
@[simp] theorem isI_d {kvs : List (D × D)} : isI (.dict kvs) = false := (rfl)
@[simp] theorem isI_l {xs : List D} : isI (.list xs) = false := (rfl)
def btw (lo hi : Int) : D → Bool
  | .int i => decide (lo ≤ i) && decide (i ≤ hi)
  | _ => false
@[simp] theorem btw_n {lo hi : Int} : btw lo hi .none = false := (rfl)
@[simp] theorem btw_b {lo hi : Int} {b : Bool} : btw lo hi (.bool b) = false := (rfl)
@[simp] theorem btw_i {lo hi i : Int} : btw lo hi (.int i) = (decide (lo ≤ i) && decide (i ≤ hi)) := (rfl)
@[simp] theorem btw_s {lo hi : Int} {x : Str} : btw lo hi (.str x) = false := (rfl)
@[simp] theorem btw_t {lo hi : Int} {xs : List D} : btw lo hi (.tuple xs) = false := (rfl)
@[simp] theorem btw_d {lo hi : Int} {kvs : List (D × D)} : btw lo hi (.dict kvs) = false := (rfl)
@[simp] theorem btw_l {lo hi : Int} {xs : List D} : btw lo hi (.list xs) = false := (rfl)
def abtw (lo hi : Int) : D → Bool
  | .tuple ds => ds.all (btw lo hi)
  | _ => false
@[simp] theorem abtw_n {lo hi : Int} : abtw lo hi .none = false := (rfl)
@[simp] theorem abtw_b {lo hi : Int} {b : Bool} : abtw lo hi (.bool b) = false := (rfl)
@[simp] theorem abtw_i {lo hi i : Int} : abtw lo hi (.int i) = false := (rfl)
@[simp] theorem abtw_s {lo hi : Int} {x : Str} : abtw lo hi (.str x) = false := (rfl)
@[simp] theorem abtw_t {lo hi : Int} {xs : List D} : abtw lo hi (.tuple xs) = xs.all (btw lo hi) := (rfl)
@[simp] theorem abtw_d {lo hi : Int} {kvs : List (D × D)} : abtw lo hi (.dict kvs) = false := (rfl)
@[simp] theorem abtw_l {lo hi : Int} {xs : List D} : abtw lo hi (.list xs) = false := (rfl)
/-- no dict, and not one within a tuple -/
def nd2 : D → Bool
  | .tuple ds => ds.all nd && decide (ds.length ≤ maxLen)
  | d => nd d
@[simp] theorem nd2_t {xs : List D} : nd2 (.tuple xs) = (xs.all nd && decide (xs.length ≤ maxLen)) := (rfl)
def lenD : D → Nat
  | .tuple ds => ds.length
  | _ => 0
@[simp] theorem lenD_t {xs : List D} : lenD (.tuple xs) = xs.length := (rfl)
/-- a row of ints, a rung, rungs, a ladder -/
def dInts (xs : List Int) : D := .tuple (xs.map .int)
def dR (r : Int × Int) : D := .tuple [.int r.1, .int r.2]
def dRs (rs : List (Int × Int)) : D := .tuple (rs.map dR)
def dLad (many : Int) (rs : List (Int × Int)) : D := .tuple [.int many, dRs rs]
def okR (many : Int) (r : Int × Int) : Prop := 0 ≤ r.1 ∧ r.1 < r.2 ∧ r.2 < many
structure okL (many : Int) (rs : List (Int × Int)) : Prop where
  lo : 1 ≤ many
  hi : many ≤ 10
  len : rs.length ≤ 80
  each : ∀ r ∈ rs, okR many r
structure okRow (many : Int) (xs : List Int) : Prop where
  len : (xs.length : Int) = many
  each : ∀ x ∈ xs, -1000000000 ≤ x ∧ x ≤ 1000000000
theorem boolsMap (f : D → Bool) {ds : List D} : bools? (ds.map fun d => .bool (f d)) = some (ds.map f) := by
  induction ds with
  | nil => rfl
  | cons d r ih => simp [bools?, ih]
theorem b_all (f : D → Bool) {ds : List D} : blt .all [.list (ds.map fun d => .bool (f d))] = some (.v (.bool (ds.all f))) := by
  simp [blt, boolsMap]
theorem flat_map {α : Type} {ds : List D} (f : D → α) : (ds.map fun d => [f d]).flatten = ds.map f := by
  induction ds with
  | nil => rfl
  | cons d r ih => simp [ih]
theorem cast_eqv {i j : Int} : PyData.eqv (.int i) (.int j) = decide (i = j) := by
  show (i == j) = decide (i = j)
  by_cases h : i = j <;> simp [h]
/-- a source of draws: at most B drawn behind its own number -/
structure PotOk (B : Nat) (ds : List D) : Prop where
  ex : ∃ a b c : Int, ds = [.int a, .int b, .int c] ∧ 0 ≤ a ∧ bd a 300 ∧ 0 ≤ b ∧ bd b 20 ∧ 0 ≤ c ∧ c ≤ B
/-- the cell n of the store is such a source -/
structure PotAt (n B : Nat) (st : Sto) : Prop where
  ex : ∃ ds, st[n]? = some ds ∧ PotOk B ds
  pu : st.all purs = true
theorem PotOk.mono {B C : Nat} {ds : List D} (h : PotOk B ds) (l : B ≤ C) : PotOk C ds := by
  obtain ⟨a, b, c, e, h1, h2, h3, h4, h5, h6⟩ := h.ex
  exact ⟨a, b, c, e, h1, h2, h3, h4, h5, by omega⟩
theorem PotAt.mono {n B C : Nat} {st : Sto} (h : PotAt n B st) (l : B ≤ C) : PotAt n C st := by
  obtain ⟨ds, e, p⟩ := h.ex
  exact ⟨⟨ds, e, p.mono l⟩, h.pu⟩
theorem PotOk.purs {B : Nat} {ds : List D} (h : PotOk B ds) : Ev.purs ds = true := by
  obtain ⟨a, b, c, rfl, _⟩ := h.ex
  rfl
/-- a new source behind a store without closures -/
theorem PotAt.new {B : Nat} {ds : List D} {st : Sto} (h : PotOk B ds) (p : st.all Ev.purs = true) : PotAt st.length B (st ++ [ds]) :=
  ⟨⟨ds, by simp, h⟩, by
    rw [List.all_append, p]
    simp [h.purs]⟩
theorem PotAt.set {n B : Nat} {ds : List D} {st : Sto} (hn : n < st.length) (h : PotOk B ds) (p : st.all Ev.purs = true) : PotAt n B (st.set n ds) :=
  ⟨⟨ds, by rw [List.getElem?_set_self hn], h⟩, by
    rw [List.all_eq_true] at *
    intro x hx
    rcases List.mem_or_eq_of_mem_set hx with q | rfl
    · exact p x q
    · exact h.purs⟩
abbrev dCell (n : Nat) : D := .dict [(.none, .int (n : Int))]
@[simp] theorem cell_of {n : Nat} : cellOf (.dict [(.none, .int (n : Int))]) = some n := rfl
theorem atI_int {ns : List Int} {p : Nat} (h : p < ns.length) : ∃ c : Int, L2.atI (ns.map PyData.int) (p : Int) = some (.int c) := ⟨ns[p], by rw [atI_nat]; simp [h]⟩
theorem bd_nat {p m : Nat} (h : p < 10 ^ m) : bd (p : Int) m := by unfold bd; simpa using h
theorem bd_lit {i : Int} {m : Nat} (h : i.natAbs < 10 ^ m) : bd i m := h
theorem setAt_ints {xs : List Int} {i x : Int} (h : 0 ≤ i) (h' : i < xs.length) : setAt (xs.map PyData.int) (.int i) (.int x) = some ((xs.set i.toNat x).map PyData.int) := by
  obtain ⟨n, rfl⟩ := Int.eq_ofNat_of_zero_le h
  have : L2.ixN xs.length (n : Int) = some n := by
    unfold L2.ixN
    rw [if_pos h, if_pos h']
    simp
  simp [setAt, this, List.map_set]
end

theorem eqvAll_ints : ∀ {xs ys : List Int}, PyData.eqvAll (xs.map PyData.int) (ys.map PyData.int) = decide (xs = ys)
  | [], [] => by simp [PyData.eqvAll]
  | [], y :: ys => by simp [PyData.eqvAll]
  | x :: xs, [] => by simp [PyData.eqvAll]
  | x :: xs, y :: ys => by
    simp only [List.map_cons, PyData.eqvAll]
    rw [eqvAll_ints, cast_eqv]
    by_cases h1 : x = y <;> by_cases h2 : xs = ys <;> simp [h1, h2]
theorem eqv_ints {xs ys : List Int} : PyData.eqv (dInts xs) (dInts ys) = decide (xs = ys) := by
  unfold dInts
  rw [PyData.eqv]
  exact eqvAll_ints
theorem sh_ints {n : Nat} {xs : List Int} : shal (n + 1) (dInts xs) = true := sh_tup fun d hd => by
  obtain ⟨x, _, rfl⟩ := List.mem_map.mp hd
  exact sh_int
theorem fl_ints {xs : List Int} : flat (dInts xs) = true := fl_sh (n := 1) sh_ints (by omega)

theorem cut_take {α : Type} {xs : List α} {i : Int} (h : 0 ≤ i) : cut xs none (some i) = xs.take i.toNat := by
  obtain ⟨n, rfl⟩ := Int.eq_ofNat_of_zero_le h
  unfold cut
  rw [HT.sIx_none, HT.sIx_nat]
  simp
theorem cut_drop {α : Type} {xs : List α} {i : Int} (h : 0 ≤ i) : cut xs (some i) none = xs.drop i.toNat := by
  obtain ⟨n, rfl⟩ := Int.eq_ofNat_of_zero_le h
  unfold cut
  rw [HT.sIx_none, HT.sIx_nat]
  rw [List.take_of_length_le (by simp)]
  rcases Nat.le_total n xs.length with hn | hn
  · rw [Nat.min_eq_left hn]; rfl
  · rw [Nat.min_eq_right hn]
    simp [hn]
theorem cut_mid {α : Type} {xs : List α} {i j : Int} (h : 0 ≤ i) (h' : i ≤ xs.length) (hj : 0 ≤ j) : cut xs (some i) (some j) = (xs.drop i.toNat).take (j.toNat - i.toNat) := by
  obtain ⟨n, rfl⟩ := Int.eq_ofNat_of_zero_le h
  obtain ⟨m, rfl⟩ := Int.eq_ofNat_of_zero_le hj
  unfold cut
  rw [HT.sIx_nat, HT.sIx_nat]
  have hn : n ≤ xs.length := by omega
  rw [Nat.min_eq_left hn]
  simp only [Int.toNat_natCast]
  rcases Nat.le_total m xs.length with hm | hm
  · rw [Nat.min_eq_left hm]
  · rw [Nat.min_eq_right hm, List.take_of_length_le (Nat.le_of_eq (by simp)), List.take_of_length_le (by simp; omega)]
@[simp] theorem ai_n : asInt? none = some none := rfl
theorem sl_t {xs : List D} {lo hi : Option D} {i j : Option Int} (h : asInt? lo = some i) (h' : asInt? hi = some j) : sl3 (.tuple xs) lo hi = some (.v (.tuple (cut xs i j))) := by simp [sl3, h, h']
theorem ai_i {i : Int} (h : -(2 ^ 60) < i) (h' : i < 2 ^ 60) : asInt? (some (.int i)) = some (some i) := by
  unfold asInt?
  simp only [h, h', decide_true, Bool.and_self, if_true]

theorem sl_l {xs : List D} {lo hi : Option D} {i j : Option Int} (h : asInt? lo = some i) (h' : asInt? hi = some j) : sl3 (.list xs) lo hi = some (.o (cut xs i j)) := by simp [sl3, h, h']

theorem f_is_integer {P : Nat → Option FD} {W k : Nat} {st : Sto} (h : H_is_integer P) {d : D} (hd : nd d = true) : evF P W (k + 1) 455 [d] st = some (.v (.bool (isI d)), st) := by
  apply eq_of_wp
  apply w_fn h.p rfl
  cases d <;> simp [b_is_integer]
  case dict => simp [is_dct hd]

theorem f_is_between {P : Nat → Option FD} {W k : Nat} {st : Sto} (h : H_is_between P) {d : D} {lo hi : Int} (hd : nd d = true) : evF P W (k + 2) 449 [d, .int lo, .int hi] st = some (.v (.bool (btw lo hi d)), st) := by
  apply eq_of_wp
  apply w_fn h.p rfl
  cases d
  case dict => simp [b_is_between, f_is_integer h.is_integer hd]
  all_goals simp [b_is_between, f_is_integer h.is_integer]
  case int i => by_cases h1 : lo ≤ i <;> simp [h1]

theorem f_are_between {P : Nat → Option FD} {W k : Nat} {st : Sto} (h : H_are_between P) {d : D} {lo hi : Int} (hd : nd2 d = true) : evF P W (k + 3) 261 [d, .int lo, .int hi] st = some (.v (.bool (abtw lo hi d)), st) := by
  apply eq_of_wp
  apply w_fn h.p rfl
  cases d <;> simp [b_are_between]
  case tuple ds =>
    simp only [nd2_t, Bool.and_eq_true, List.all_eq_true, decide_eq_true_eq] at hd
    have e : ∀ (ρ : Rho), mapM (itemF (evF P W (k + 2)) [3] (.nm 3) .nil (.call 449 (.cons false (.var 3) (.cons false (.var 1) (.cons false (.var 2) .nil)))) [some (.v (.tuple ds)), some (.v (.int lo)), some (.v (.int hi)), none]) ds st = some (ds.map fun d => .bool (btw lo hi d), st) := fun ρ => by
      rw [mapM_pure (g := fun d => [.bool (btw lo hi d)]) (fun d hm => ?_), flat_map]
      apply eq_of_wp
      simp [f_is_between h.is_between (hd.1 d hm)]
    rw [e []]
    simp [hd.2, b_all]
  case dict => simp [is_dct (show nd _ = true from hd)]

theorem sum_bd : ∀ {ns : List Int}, ints? (ns.map PyData.int) = some ns
  | [] => rfl
  | n :: r => by simp [ints?, sum_bd]
theorem f_pot {P : Nat → Option FD} {W k : Nat} {st : Sto} (h : H_u_law_pot P) {ns : List Int} {p : Nat} (hp : p < 1000) :
    ∃ ds, PotOk 0 ds ∧ evF P W (k + 1) 204 [.list (ns.map .int), .int (p : Int)] st = some (.o ds, st) := by
  have key : wp (evF P W (k + 1) 204 [.list (ns.map .int), .int (p : Int)] st) fun q => ∃ ds, PotOk 0 ds ∧ q = (.o ds, st) := by
    apply w_fn h.p rfl
    have hpb : bd (p : Int) 3 := bd_nat hp
    have hpB := big_bd hpb (by decide)
    simp only [b_u_law_pot, wSs_cons, wS_asg]
    refine wp_mono (Q := fun q => ∃ c : Int, q = (.v (.int c), st)) ?_ ?_
    · simp
      by_cases hlt : p < ns.length
      · obtain ⟨c, hc⟩ := atI_int hlt
        simp [hlt, hc]
      · have e1 : sl3 (.list (ns.map PyData.int)) none (some (.int 1)) = some (.o ((ns.map PyData.int).take 1)) := by
          simp [sl3, asInt?]
          unfold cut
          rw [HT.sIx_none, show (some (1 : Int)) = some ((1 : Nat) : Int) from rfl, HT.sIx_nat]
          simp
        have e2 : blt .sum [.list ((ns.map PyData.int).take 1)] = some (.v (.int (ns.take 1).sum)) := by
          rw [← List.map_take]
          simp only [blt, sum_bd, Option.map_some]
        simp [hlt, e1, e2, hpB]
        decide +kernel
    · rintro _ ⟨c, rfl⟩
      simp [hpB]
      have ha : 0 ≤ (if c < 0 then -c else c) := by split <;> omega
      generalize (if c < 0 then -c else c) = a at *
      have he : ∃ e : Int, (if 1000000000000000000 ≤ a then 1 else 0) = e ∧ 0 ≤ e ∧ bd e 1 ∧ (e = 0 ∨ e = 1) := by
        by_cases q : 1000000000000000000 ≤ a
        · exact ⟨1, by simp [q], by decide, by unfold bd; decide, .inr rfl⟩
        · exact ⟨0, by simp [q], by decide, by unfold bd; decide, .inl rfl⟩
      obtain ⟨e, he0, he1, he2, he3⟩ := he
      rw [he0]
      have hm0 := Int.emod_nonneg a (b := 10 ^ 300) (by decide +kernel)
      have hm1 := bd_mod (i := a) (j := 10 ^ 300) (m := 301) (by decide +kernel) (by unfold bd; decide +kernel)
      have hm2 := Int.emod_lt_of_pos a (b := 10 ^ 300) (by decide +kernel)
      have hm3 : bd (a % 10 ^ 300) 300 := bd_of hm0 hm2
      have hp2 := bd_mul (bd_lit (i := 8161) (m := 10) (by decide)) hpb
      have hq0 := Int.emod_nonneg (c % 2305843009213693951 * 69931 + 8161 * (p : Int) * (p : Int) + 1289) (b := 2305843009213693921) (by decide)
      have hq1 := bd_mod (i := c % 2305843009213693951 * 69931 + 8161 * (p : Int) * (p : Int) + 1289) (j := 2305843009213693921) (m := 20) (by decide) (by unfold bd; decide)
      refine ⟨big_bd hm3 (by decide), big_bd he2 (by decide), big_bd (bd_mod (m := 20) (by decide) (by unfold bd; decide)) (by decide), big_bd (bd_lit (m := 10) (by decide)) (by decide), big_bd (bd_lit (m := 10) (by decide)) (by decide), big_bd hp2 (by decide), by decide, _, _, _, rfl, ?_, ?_, hq0, hq1, by decide, by decide⟩
      · exact Int.mul_nonneg hm0 he1
      · rcases he3 with rfl | rfl
        · rw [Int.mul_zero]; unfold bd; decide +kernel
        · rw [Int.mul_one]; exact hm3
  obtain ⟨q, e, ds, h1, rfl⟩ := key
  exact ⟨ds, h1, e⟩

theorem f_take {P : Nat → Option FD} {W k : Nat} {st : Sto} (h : H_u_law_take P) {n B : Nat} {u : Int} {Q : RV × Sto → Prop} (hu : 0 < u) (hu2 : bd u 18) (hp : PotAt n B st) (hB : B ≤ 10 ^ 15)
    (q : ∀ v st', 0 ≤ v → v < u → PotAt n (B + 1) st' → st'.length = st.length → Q (.v (.int v), st')) : wp (evF P W (k + 1) 230 [dCell n, .int u] st) Q := by
  obtain ⟨ds, hd, hpo⟩ := hp.ex
  obtain ⟨a, b, c, rfl, h1, h2, h3, h4, h5, h6⟩ := hpo.ex
  have hn : n < st.length := by
    rcases Nat.lt_or_ge n st.length with z | z
    · exact z
    · rw [List.getElem?_eq_none z] at hd; cases hd
  have hbu := big_bd hu2 (by omega)
  have q' : ∀ (v : Int) (ds' : List D), 0 ≤ v → v < u → PotOk (B + 1) ds' → Q (.v (.int v), st.set n ds') := fun v ds' a1 a2 a3 => q v _ a1 a2 (PotAt.set hn a3 hp.pu) (by simp)
  apply w_fn h.p rfl
  simp only [b_u_law_take]
  simp [look_at hd, setAt_3, hd, look_at (List.getElem?_set_self hn), hu, hbu]
  by_cases ha : 0 < a
  · rw [if_pos ha]
    refine q' _ _ (Int.emod_nonneg _ (by omega)) (Int.emod_lt_of_pos _ hu) ⟨_, _, _, rfl, Int.ediv_nonneg h1 (by omega), ?_, h3, h4, h5, by omega⟩
    have : a / u ≤ a := Int.ediv_le_self _ h1
    have h0 := Int.ediv_nonneg h1 (by omega : (0 : Int) ≤ u)
    unfold bd at *
    omega
  · rw [if_neg ha]
    have hc : bd (c + 1) 17 := bd_of (by omega) (by omega)
    have hc2 : 0 ≤ (c + 1) % 5 := Int.emod_nonneg _ (by omega)
    have hc3 : (c + 1) % 5 < 5 := Int.emod_lt_of_pos _ (by omega)
    have hpr : ∃ p, L2.atI [PyData.int 2147482507, PyData.int 2147482501, PyData.int 2147482481, PyData.int 2147482417, PyData.int 2147482409] ((c + 1) % 5) = some (.int p) ∧ 0 < p ∧ bd p 10 := by
      generalize (c + 1) % 5 = m at *
      have : m = 0 ∨ m = 1 ∨ m = 2 ∨ m = 3 ∨ m = 4 := by omega
      rcases this with rfl | rfl | rfl | rfl | rfl <;> exact ⟨_, rfl, by decide, by unfold bd; decide⟩
    obtain ⟨p, hp1, hp2, hp3⟩ := hpr
    have lit : ∀ {i : Int} {m : Nat}, i.natAbs < 10 ^ m → bd i m := fun h => h
    have hx : bd (b + 73583 * (c + 1) * (c + 1) + 1871) 100 := bd_mono (bd_add (bd_add h4 (bd_mul (bd_mul (lit (m := 10) (by decide)) hc) hc)) (lit (m := 10) (by decide))) (by decide)
    have hcs : bd (241 * (c + 1)) 30 := bd_mono (bd_mul (lit (m := 10) (by decide)) hc) (by decide)
    have hb1 := big_bd (lit (i := 73583) (m := 10) (by decide)) (by decide)
    have hb2 := big_bd hc (by decide)
    have hb3 := big_bd (bd_mul (lit (i := 73583) (m := 10) (by decide)) hc) (by decide)
    have hb4 := big_bd (lit (i := 241) (m := 10) (by decide)) (by decide)
    rw [hp1]
    have hy := bd_mod (i := (b + 73583 * (c + 1) * (c + 1) + 1871) ^ 3) hp2 hp3
    have hy0 := Int.emod_nonneg ((b + 73583 * (c + 1) * (c + 1) + 1871) ^ 3) (by omega : p ≠ 0)
    simp [hb1, hb2, hb3, hb4, pow_bd hx (by decide), hp2, hu]
    generalize (b + 73583 * (c + 1) * (c + 1) + 1871) ^ 3 % p = y at *
    have hz : bd (y % 8069 + 241 * (c + 1)) 40 := bd_mono (bd_add (bd_mod (j := 8069) (m := 10) (by decide) (by unfold bd; decide)) hcs) (by decide)
    refine ⟨by decide, big_bd hy (by decide), big_bd hz (by decide), by decide +kernel, ?_⟩
    exact q' _ _ (Int.emod_nonneg _ (by omega)) (Int.emod_lt_of_pos _ hu) ⟨_, _, _, rfl, h1, h2, h3, h4, by omega, by omega⟩

theorem f_of {P : Nat → Option FD} {W k : Nat} {st : Sto} (h : H_u_law_of P) {n B : Nat} {ds : List D} {Q : RV × Sto → Prop} (hd : ds ≠ []) (hl : ds.length ≤ maxLen) (hp : PotAt n B st) (hB : B ≤ 10 ^ 15)
    (q : ∀ d st', d ∈ ds → PotAt n (B + 1) st' → st'.length = st.length → Q (.v d, st')) : wp (evF P W (k + 2) 193 [dCell n, .list ds] st) Q := by
  apply w_fn h.p rfl
  have h0 : 0 < ds.length := List.length_pos_iff.mpr hd
  have hb : bd (ds.length : Int) 18 := by unfold bd; simp [maxLen] at hl ⊢; omega
  simp [b_u_law_of]
  refine f_take h.u_law_take (by omega) hb hp hB fun v st' h1 h2 hp' hl' => ?_
  obtain ⟨m, rfl⟩ := Int.eq_ofNat_of_zero_le h1
  have hm : m < ds.length := by omega
  simp only [d_v, l_list, s_list, atI_nat, List.getElem?_eq_getElem hm, wp_some]
  exact ⟨hl', q _ _ (List.getElem_mem hm) hp' hl'⟩

theorem f_cells {P : Nat → Option FD} {W k : Nat} {st : Sto} (h : H_u_law_cells P) {n : Int} {ns : List Int} (h1 : 1 ≤ n) (h2 : n ≤ 1000) :
    ∃ m : Nat, m ≤ n ∧ evF P W (k + 1) 67 [.list (ns.map .int), .int n] st = some (.o (rangeL 0 m), st) := by
  refine ⟨(max 1 (min n ns.length)).toNat, by omega, ?_⟩
  apply eq_of_wp
  apply w_fn h.p rfl
  have e : (if (if (ns.length : Int) < n then (ns.length : Int) else n) > 1 then (if (ns.length : Int) < n then (ns.length : Int) else n) else 1) = max 1 (min n ns.length) := by
    split <;> split <;> omega
  have hs : small (max 1 (min n ns.length)) = true := by simp [small]; omega
  have hm : max 1 (min n (ns.length : Int)) ≤ maxLen := by simp [maxLen]; omega
  have hr : rangeOf [.int (max 1 (min n (ns.length : Int)))] = some (rangeL 0 (max 1 (min n (ns.length : Int))).toNat) := by simp [rangeOf, hs, hm]
  simp only [gt_iff_lt] at e
  simp [b_u_law_cells, e, hr]

theorem rangeOf_nat {n : Nat} (h : n ≤ 1000) : rangeOf [.int (n : Int)] = some (rangeL 0 n) := by
  have h1 : small (n : Int) = true := by simp [small]; omega
  have h2 : (n : Int) ≤ maxLen := by show (n : Int) ≤ (100000 : Nat); omega
  simp [rangeOf, h1, h2]
theorem map_at {α β : Type} {f : α → β} {l : List α} {i : Nat} {d : β} (h : (l.map f)[i]? = some d) : ∃ a, l[i]? = some a ∧ d = f a := by
  rw [List.getElem?_map] at h
  obtain ⟨a, h1, h2⟩ := Option.map_eq_some_iff.mp h
  exact ⟨a, h1, h2.symm⟩

/-! ### the length of shown data -/
theorem len_digits {n m : Nat} (hm : 1 ≤ m) (h : n < 10 ^ m) : (Nat.toDigits 10 n).length ≤ m := by
  exact (Nat.length_toDigits_le_iff (by omega) (by omega)).mpr h
theorem str_len (s : String) : (PySem.Str.ofString s).length = s.toList.length := by
  rw [PySem.Str.ofString_eq_toList]
  show ((s.toList.map Char.toNat).toArray).size = _
  simp
theorem str_app (a b : Str) : (a ++ b).length = a.length + b.length := by
  show (a.cps ++ b.cps).size = _
  rw [Array.size_append]; rfl
theorem nat_len {n m : Nat} (hm : 1 ≤ m) (h : n < 10 ^ m) : (Nat.repr n).toList.length ≤ m := by
  rw [Nat.toList_repr]
  exact len_digits hm h
theorem int_len {i : Int} {m : Nat} (hm : 1 ≤ m) (h : bd i m) : (PyData.int i).shown.length ≤ m + 1 := by
  have e : (PyData.int i).shown = PySem.Str.ofString (toString i) := by simp [PyData.shown]
  rw [e, str_len]
  cases i with
  | ofNat n =>
    show (Nat.repr n).toList.length ≤ m + 1
    have := nat_len hm (show n < 10 ^ m from h)
    omega
  | negSucc n =>
    show ("-" ++ Nat.repr (n + 1)).toList.length ≤ m + 1
    have := nat_len hm (show n + 1 < 10 ^ m from h)
    rw [String.toList_append, List.length_append]
    have e1 : "-".toList.length = 1 := by decide
    omega
theorem piled_le {m : Nat} : ∀ {ts : List Str}, (∀ t ∈ ts, t.length ≤ m) → piled ts ≤ ts.length * (m + 2)
  | [], _ => by simp [piled_nil]
  | t :: r, h => by
    rw [piled_cons, List.length_cons, Nat.succ_mul]
    have h1 := h t (List.mem_cons_self ..)
    have h2 := piled_le (ts := r) fun x hx => h x (List.mem_cons_of_mem _ hx)
    omega
theorem shownAll_eq : ∀ xs : List D, PyData.shownAll xs = xs.map PyData.shown
  | [] => by simp [PyData.shownAll]
  | x :: r => by simp [PyData.shownAll, shownAll_eq r]
theorem tup_len {xs : List D} {m : Nat} (h : ∀ d ∈ xs, d.shown.length ≤ m) : (PyData.tuple xs).shown.length ≤ xs.length * (m + 2) + 3 := by
  have e : (PyData.tuple xs).shown = tupleText (xs.map PyData.shown) := by simp [PyData.shown, shownAll_eq]
  rw [e]
  unfold tupleText
  rw [str_app, str_app]
  have e1 : ("(" : Str).length = 1 := by decide +kernel
  have e2 : ((if (xs.map PyData.shown).length == 1 then ",)" else ")" : String) : Str).length ≤ 2 := by split <;> decide +kernel
  have e3 : (Str.join ", " (xs.map PyData.shown)).length ≤ xs.length * (m + 2) := by
    cases xs with
    | nil => exact Nat.le_trans (by decide +kernel : (Str.join ", " ([] : List Str)).length ≤ 0) (Nat.zero_le _)
    | cons x r =>
      have a := join_length_add ((x :: r).map PyData.shown) (by simp)
      have b := piled_le (m := m) (ts := (x :: r).map PyData.shown) (by simpa using h)
      simp only [List.length_map] at b
      omega
  omega
theorem showAll_iff : ∀ {xs : List D}, PyData.showableAll xs = true ↔ ∀ d ∈ xs, d.showable = true
  | [] => by simp [PyData.showableAll]
  | x :: r => by simp [PyData.showableAll, showAll_iff (xs := r)]
theorem show_tup {xs : List D} (h : ∀ d ∈ xs, d.showable = true) : (PyData.tuple xs).showable = true := by
  simp only [PyData.showable]
  exact showAll_iff.mpr h
theorem show_int {i : Int} {m : Nat} (h : bd i m) (hm : m ≤ 500) : (PyData.int i).showable = true := by
  simp only [PyData.showable, decide_eq_true_eq]
  by_cases h0 : i.natAbs = 0
  · rw [h0]; decide
  · rw [Nat.log2_lt h0]
    exact Nat.lt_of_lt_of_le (bd_mono h hm) (by decide +kernel)
/-- data whose text is short -/
structure Sho (k : Nat) (d : D) (n : Nat) : Prop where
  fl : shal k d = true
  sh : d.showable = true
  le : d.shown.length ≤ n
theorem b_repr {k : Nat} {d : D} {n : Nat} (h : Sho k d n) (hk : k ≤ 20) (hn : n ≤ 100000) : blt .repr [d] = some (.v (.str d.shown)) := by
  have h1 : flat d = true := fl_sh h.fl hk
  have h0 : rpOk d = true := by unfold rpOk; rw [h1]; rfl
  have h2 : d.shown.length ≤ maxLen := Nat.le_trans h.le hn
  simp [blt, h0, h.sh, h2]
theorem sho_int {k : Nat} {i : Int} {m : Nat} (h : bd i m) (hm : 1 ≤ m) (hm2 : m ≤ 500) : Sho k (.int i) (m + 1) := ⟨sh_int, show_int h hm2, int_len hm h⟩
theorem Sho.mono {k l : Nat} {d : D} {n m : Nat} (h : Sho k d n) (hk : k ≤ l) (hn : n ≤ m) : Sho l d m := ⟨sh_mono h.fl hk, h.sh, Nat.le_trans h.le hn⟩
theorem sho_tup {k m : Nat} {xs : List D} (h : ∀ d ∈ xs, Sho k d m) : Sho (k + 1) (.tuple xs) (xs.length * (m + 2) + 3) := ⟨sh_tup fun d hd => (h d hd).fl, show_tup fun d hd => (h d hd).sh, tup_len fun d hd => (h d hd).le⟩
theorem sho_ints {xs : List Int} {c : Nat} (h : ∀ x ∈ xs, -1000000000 ≤ x ∧ x ≤ 1000000000) (hc : xs.length ≤ c) : Sho 1 (dInts xs) (c * 13 + 3) := by
  have := sho_tup (k := 0) (m := 11) (xs := xs.map .int) fun d hd => by
    obtain ⟨x, hx, rfl⟩ := List.mem_map.mp hd
    have hb := h x hx
    exact sho_int (m := 10) (by unfold bd; omega) (by omega) (by omega)
  refine this.mono (Nat.le_refl _) ?_
  simp only [List.length_map]
  have := Nat.mul_le_mul_right 13 hc
  omega
theorem sho_rungs {n : Int} {rs : List (Int × Int)} {c : Nat} (h : ∀ r ∈ rs, okR n r) (hn : n ≤ 100) (hc : rs.length ≤ c) : Sho 2 (dRs rs) (c * 40 + 3) := by
  have := sho_tup (k := 1) (m := 33) (xs := rs.map dR) fun d hd => by
    obtain ⟨r, hr, rfl⟩ := List.mem_map.mp hd
    obtain ⟨h1, h2, h3⟩ := h r hr
    have := sho_tup (k := 0) (m := 11) (xs := [.int r.1, .int r.2]) fun d hd => by
      simp only [List.mem_cons, List.not_mem_nil, or_false] at hd
      rcases hd with rfl | rfl
      · exact sho_int (m := 10) (by unfold bd; omega) (by omega) (by omega)
      · exact sho_int (m := 10) (by unfold bd; omega) (by omega) (by omega)
    exact this.mono (Nat.le_refl _) (by simp)
  refine this.mono (Nat.le_refl _) ?_
  simp only [List.length_map]
  omega

theorem boolsMapG {α : Type} (f : α → Bool) {l : List α} : bools? (l.map fun a => PyData.bool (f a)) = some (l.map f) := by
  induction l with
  | nil => rfl
  | cons d r ih => simp [bools?, ih]
theorem b_allG {α : Type} (f : α → Bool) {l : List α} : blt .all [.list (l.map fun a => PyData.bool (f a))] = some (.v (.bool (l.all f))) := by
  simp [blt, boolsMapG]
theorem zip_ints {xs ys : List Int} : (((xs.map PyData.int).zip (ys.map PyData.int)).map fun p => PyData.tuple [p.1, p.2]) = (xs.zip ys).map fun p => PyData.tuple [.int p.1, .int p.2] := by
  rw [List.zip_map, List.map_map]
  rfl
theorem sl_one {xs : List Int} : sl3 (dInts xs) (some (.int 1)) none = some (.v (dInts (xs.drop 1))) := by
  have := cut_drop (xs := xs.map PyData.int) (i := 1) (by omega)
  simp [sl3, dInts, asInt?, this]
theorem zipOf_ints {xs ys : List Int} : zipOf (dInts xs) (dInts ys) = some ((xs.zip ys).map fun p => PyData.tuple [.int p.1, .int p.2]) := by
  simp only [zipOf, dInts]
  rw [zip_ints]
theorem b_anyG {α : Type} (f : α → Bool) {l : List α} : blt .any [.list (l.map fun a => PyData.bool (f a))] = some (.v (.bool (l.any f))) := by
  simp [blt, boolsMapG]

/-! ### sorted rows -/
def insI (x : Int) : List Int → List Int
  | [] => [x]
  | y :: r => if x ≤ y then x :: y :: r else y :: insI x r
def sortI : List Int → List Int
  | [] => []
  | x :: r => insI x (sortI r)
theorem ins_ints (x : Int) : ∀ xs : List Int, insBy dLe (.int x) (xs.map .int) = (insI x xs).map .int
  | [] => rfl
  | y :: r => by
    show (if decide (x ≤ y) = true then _ else _) = _
    unfold insI
    by_cases h : x ≤ y
    · simp [h]
    · simp [h, ins_ints x r]
theorem sort_ints : ∀ xs : List Int, sortBy dLe (xs.map .int) = (sortI xs).map .int
  | [] => rfl
  | x :: r => by
    show insBy dLe (.int x) (sortBy dLe (r.map .int)) = _
    rw [sort_ints r, ins_ints]
    rfl
theorem insI_perm (x : Int) : ∀ xs : List Int, (insI x xs).Perm (x :: xs)
  | [] => .refl _
  | y :: r => by
    unfold insI
    split
    · exact .refl _
    · exact ((insI_perm x r).cons y).trans (.swap x y r)
theorem sortI_perm : ∀ xs : List Int, (sortI xs).Perm xs
  | [] => .refl _
  | x :: r => (insI_perm x _).trans ((sortI_perm r).cons x)
theorem insI_sorted {x : Int} : ∀ {xs : List Int}, xs.Pairwise (· ≤ ·) → (insI x xs).Pairwise (· ≤ ·)
  | [], _ => by simp [insI]
  | y :: r, h => by
    unfold insI
    rw [List.pairwise_cons] at h
    split
    · rename_i hxy
      rw [List.pairwise_cons]
      refine ⟨fun z hz => ?_, by rw [List.pairwise_cons]; exact h⟩
      rcases List.mem_cons.mp hz with rfl | hz
      · exact hxy
      · have := h.1 z hz; omega
    · rename_i hxy
      rw [List.pairwise_cons]
      refine ⟨fun z hz => ?_, insI_sorted h.2⟩
      rcases List.mem_cons.mp ((insI_perm x r).mem_iff.mp hz) with rfl | hz
      · omega
      · exact h.1 z hz
theorem sortI_sorted : ∀ xs : List Int, (sortI xs).Pairwise (· ≤ ·)
  | [] => .nil
  | x :: r => insI_sorted (sortI_sorted r)
theorem sortI_eq {xs ys : List Int} (h : xs.Perm ys) : sortI xs = sortI ys :=
  List.Perm.eq_of_pairwise (fun a b _ _ h1 h2 => by omega) (sortI_sorted xs) (sortI_sorted ys) (((sortI_perm xs).trans h).trans (sortI_perm ys).symm)
theorem b_sortT {xs : List Int} (h : xs.length ≤ maxLen) : blt .sorted [dInts xs] = some (.o ((sortI xs).map .int)) := by
  have h1 : allAlike (xs.map PyData.int) = true := by
    simp only [allAlike, List.all_eq_true]
    intro x hx y hy
    obtain ⟨a, _, rfl⟩ := List.mem_map.mp hx
    obtain ⟨b, _, rfl⟩ := List.mem_map.mp hy
    simp [PySem.W.alike]
  have h2 : sortable (xs.map PyData.int) = true := by
    unfold sortable
    rw [Bool.or_eq_true]
    right
    simp
  have h3 : shalAll 19 (xs.map PyData.int) = true := sh_iff.mpr fun d hd => by
    obtain ⟨a, _, rfl⟩ := List.mem_map.mp hd
    exact sh_int
  show (if _ then _ else _) = _
  rw [h1, h2, h3, sort_ints]
  simp [h]

theorem fl_lints {xs : List Int} : flat (.list (xs.map .int)) = true := fl_sh (n := 1) (sh_list fun d hd => by
  obtain ⟨a, _, rfl⟩ := List.mem_map.mp hd
  exact sh_int) (by omega)
theorem any_ints {xs : List Int} {a : Int} : ((xs.map PyData.int).any fun z => PyData.eqv z (.int a)) = decide (a ∈ xs) := by
  induction xs with
  | nil => simp
  | cons x r ih =>
    rw [List.map_cons, List.any_cons, ih, cast_eqv]
    by_cases h : x = a
    · subst h; simp
    · have h' : ¬ a = x := fun e => h e.symm
      simp [h, h']
theorem c_inL {xs : List Int} {a : Int} : cmp2 .isin (.int a) (.list (xs.map .int)) = some (.bool (decide (a ∈ xs))) := by
  simp only [cmp2, fl_int, fl_lints, Bool.and_self, if_true, any_ints]
theorem c_inT {xs : List Int} {a : Int} : cmp2 .isin (.int a) (.tuple (xs.map .int)) = some (.bool (decide (a ∈ xs))) := by
  have := fl_ints (xs := xs)
  unfold dInts at this
  simp only [cmp2, fl_int, this, Bool.and_self, if_true, any_ints]
theorem c_ninL {xs : List Int} {a : Int} : cmp2 .notin (.int a) (.list (xs.map .int)) = some (.bool (decide (a ∉ xs))) := by
  simp only [cmp2, fl_int, fl_lints, Bool.and_self, if_true, any_ints]
  simp
theorem eqv_lints {xs ys : List Int} : PyData.eqv (.list (xs.map .int)) (.list (ys.map .int)) = decide (xs = ys) := by
  rw [PyData.eqv]; exact eqvAll_ints
theorem count_eqv {xs : List Int} {a : Int} : ((xs.map PyData.int).countP fun y => PyData.eqv y (.int a)) = xs.count a := by
  rw [List.countP_map, List.count]
  congr 1
theorem c_cnt {xs : List Int} {a : Int} : cnt2 (dInts xs) (.int a) = some (.int (xs.count a : Nat)) := by
  have h1 : shalAll 19 (xs.map PyData.int) = true := sh_iff.mpr fun d hd => by
    obtain ⟨x, _, rfl⟩ := List.mem_map.mp hd
    exact sh_int
  simp only [dInts, cnt2, h1, fl_int, Bool.and_self, if_true, count_eqv]

theorem ixN_nat {n j : Nat} (h : j < n) : L2.ixN n (j : Int) = some j := by
  unfold L2.ixN
  rw [if_pos (by omega), if_pos (by omega)]
  simp
theorem erase_perm {α : Type} : ∀ {l : List α} {j : Nat} {x : α}, l[j]? = some x → (x :: l.eraseIdx j).Perm l
  | [], _, _, h => by simp at h
  | y :: l, 0, x, h => by
    simp at h
    subst h
    exact .refl _
  | y :: l, j + 1, x, h => by
    have := erase_perm (l := l) (j := j) (x := x) (by simpa using h)
    rw [List.eraseIdx_cons_succ]
    exact (List.Perm.swap y x _).trans (this.cons y)
theorem f_some {P : Nat → Option FD} {W k : Nat} {st : Sto} (h : H_u_law_some P) {n B m : Nat} {ds : List D} {Q : RV × Sto → Prop} (hm : m ≤ ds.length) (hl : ds.length ≤ 1000) (hp : PotAt n B st) (hB : B + m ≤ 10 ^ 14)
    (q : ∀ out left st', (out ++ left).Perm ds → out.length = m → PotAt n (B + m) st' → st'.length = st.length → Q (.o out, st')) : wp (evF P W (k + 2) 219 [dCell n, .list ds, .int (m : Int)] st) Q := by
  apply w_fn h.p rfl
  have hr := rangeOf_nat (n := m) (by omega)
  simp [b_u_law_some, hr, maxLen, -seqQ_nx]
  rw [seqQ_nx]
  simp [hr, -seqQ_nx]
  refine wp_loop (fun i ρ s => ∃ (out left : List D) (z : Option RV), ρ = [some (RV.v (dCell n)), some (RV.v (PyData.list ds)), some (RV.v (PyData.int (m : Int))), z, some (RV.o left), some (RV.o out)] ∧ (out ++ left).Perm ds ∧ out.length = i ∧ PotAt n (B + i) s ∧ s.length = st.length) ⟨[], ds, none, rfl, by simp, rfl, hp, rfl⟩ ?_ ?_
  · rintro i d ρ s hd ⟨out, left, z, rfl, hpm, hol, hp', hs⟩
    have hi : i < m := by
      have := (List.getElem?_eq_some_iff.mp hd).1
      simpa [rangeL] using this
    have htot : out.length + left.length = ds.length := by rw [← hpm.length_eq, List.length_append]
    simp
    refine f_take h.u_law_take (by omega) ?_ hp' (by omega) fun v s1 v1 v2 hp1 hl1 => ?_
    · exact bd_of (by omega) (by omega)
    obtain ⟨j, rfl⟩ := Int.eq_ofNat_of_zero_le v1
    have hj : j < left.length := by omega
    have hx : left[j]? = some left[j] := List.getElem?_eq_getElem hj
    simp [ixN_nat hj, hx, maxLen]
    have e := erase_perm hx
    have e2 : (out ++ left[j] :: left.eraseIdx j).Perm (out ++ left) := e.append_left out
    refine ⟨by omega, _, _, ⟨rfl, rfl⟩, ?_, by simp [hol], hp1, hl1.trans hs⟩
    simpa using e2.trans hpm
  · rintro ρ s ⟨out, left, z, rfl, hpm, hol, hp', hs⟩
    rw [rangeL_len] at hol hp'
    simp
    exact ⟨hs, q out left s hpm hol hp' hs⟩
/-- two drawn tracks, ascending: a rung -/
theorem two_sorted {a b : Int} : blt .sorted [.list [.int a, .int b]] = some (.o [.int (if a ≤ b then a else b), .int (if a ≤ b then b else a)]) := by
  have := b_sortT (xs := [a, b]) (by simp [maxLen])
  have e : blt .sorted [.list [.int a, .int b]] = blt .sorted [dInts [a, b]] := rfl
  rw [e, this]
  by_cases h : a ≤ b <;> simp [sortI, insI, h]
theorem f_two {P : Nat → Option FD} {W k : Nat} {st : Sto} (h : H_u_law_some P) {n B m : Nat} {Q : RV × Sto → Prop} (hm : 2 ≤ m) (hm2 : m ≤ 100) (hp : PotAt n B st) (hB : B + 2 ≤ 10 ^ 14)
    (q : ∀ (a b : Int) st', 0 ≤ a → a < m → 0 ≤ b → b < m → a ≠ b → PotAt n (B + 2) st' → st'.length = st.length → Q (.o [.int a, .int b], st')) : wp (evF P W (k + 2) 219 [dCell n, .list (rangeL 0 m), .int 2] st) Q := by
  refine f_some (m := 2) h (by rw [rangeL_len]; exact hm) (by rw [rangeL_len]; omega) hp hB fun out left st' hpm hol hp' hl' => ?_
  have hmem : ∀ d ∈ out, ∃ j : Nat, j < m ∧ d = .int (j : Int) := fun d hd => by
    have : d ∈ rangeL 0 m := hpm.mem_iff.mp (List.mem_append_left _ hd)
    obtain ⟨j, hj, rfl⟩ := List.mem_map.mp this
    exact ⟨j, List.mem_range.mp hj, by simp⟩
  have hnd : (rangeL 0 m).Nodup := by
    unfold rangeL
    refine List.Pairwise.map _ (fun a b hab e => ?_) List.nodup_range
    injection e with e
    omega
  have hno : out.Nodup := (List.nodup_append.mp (hpm.nodup_iff.mpr hnd)).1
  match out, hol with
  | [x, y], _ =>
    obtain ⟨a, ha, rfl⟩ := hmem x (by simp)
    obtain ⟨b, hb, rfl⟩ := hmem y (by simp)
    refine q a b st' (by omega) (by omega) (by omega) (by omega) (fun e => ?_) hp' hl'
    rw [e] at hno
    simp at hno

theorem f_law_is_int {P : Nat → Option FD} {W k : Nat} {st : Sto} (h : H_u_law_is_int P) {d : D} {lo hi : Int} (hd : nd d = true) : evF P W (k + 1) 126 [d, .int lo, .int hi] st = some (.v (.bool (btw lo hi d)), st) := by
  apply eq_of_wp
  apply w_fn h.p rfl
  cases d
  case dict => simp [b_u_law_is_int, is_dct hd]
  all_goals simp [b_u_law_is_int]
  case int i => by_cases h1 : lo ≤ i <;> simp [h1]

theorem wp_compD {F : FT} {own : List Nat} {tg : Tg} {ifs : CEs} {elt : CE} {ρ : Rho} {st : Sto} {l : List D} {Q : List D × Sto → Prop} (f : D → D) (h : ∀ a ∈ l, wp (itemF F own tg ifs elt ρ a st) fun p => p = ([f a], st)) (hq : Q (l.map f, st)) : wp (mapM (itemF F own tg ifs elt ρ) l st) Q := by
  have := wp_comp (F := F) (own := own) (tg := tg) (ifs := ifs) (elt := elt) (ρ := ρ) (st := st) (e := fun d : D => d) (f := f) (l := l) (Q := Q) h hq
  simpa using this
/-- a value: no cell within two tuples -/
def okV : D → Bool
  | .tuple ds => ds.all nd2 && decide (ds.length ≤ maxLen)
  | d => nd d
@[simp] theorem okV_t {xs : List D} : okV (.tuple xs) = (xs.all nd2 && decide (xs.length ≤ maxLen)) := (rfl)
def rowOf? : List D → Option (List Int)
  | [] => some []
  | .int i :: r => (rowOf? r).map (i :: ·)
  | _ :: _ => none
theorem rowOf_all {lo hi : Int} : ∀ {ds : List D}, ds.all (btw lo hi) = true → ∃ xs : List Int, ds = xs.map .int ∧ ∀ x ∈ xs, lo ≤ x ∧ x ≤ hi
  | [], _ => ⟨[], rfl, fun x hx => by simp at hx⟩
  | d :: r, h => by
    rw [List.all_cons, Bool.and_eq_true] at h
    obtain ⟨xs, e, hx⟩ := rowOf_all h.2
    cases d <;> first | (cases h.1; done) | skip
    case int i =>
      have hi := h.1
      simp at hi
      exact ⟨i :: xs, by rw [e]; rfl, fun x hx' => by
        rcases List.mem_cons.mp hx' with rfl | hx'
        · exact hi
        · exact hx x hx'⟩
/-- the row that a value is -/
def rowD (n : Nat) (d : D) : Bool := abtw (-1000000000) 1000000000 d && decide ((lenD d : Int) = n)
theorem rowD_row {n : Nat} {d : D} (h : rowD n d = true) : ∃ xs : List Int, d = dInts xs ∧ okRow (n : Int) xs := by
  unfold rowD at h
  rw [Bool.and_eq_true, decide_eq_true_eq] at h
  cases d <;> first | (cases h.1; done) | skip
  case tuple ds =>
    obtain ⟨xs, rfl, hx⟩ := rowOf_all (show ds.all _ = true from h.1)
    exact ⟨xs, rfl, by simpa using h.2, hx⟩
def intsOf : D → List Int
  | .tuple ds => ds.map fun d => match d with | .int i => i | _ => 0
  | _ => []
theorem intsOf_row {xs : List Int} : intsOf (dInts xs) = xs := by
  show ((xs.map PyData.int).map fun d => match d with | .int i => i | _ => 0) = xs
  rw [List.map_map]
  exact List.map_id _
theorem notin_12 {m : Int} : cmp2 .notin (.int m) (.tuple [.int 1, .int 2]) = some (.bool (!(decide (1 = m) || decide (2 = m)))) := by
  have a : flat (.tuple [.int 1, .int 2]) = true := by decide +kernel
  simp only [cmp2, fl_int, a, Bool.and_self, if_true, List.any_cons, List.any_nil, Bool.or_false, cast_eqv]
theorem enum_map {α : Type} {f : α → D} {l : List α} : enumOf (l.map f) = l.zipIdx.map fun q => .tuple [.int (q.2 : Nat), f q.1] := by
  unfold enumOf
  rw [List.zipIdx_map, List.map_map]
  rfl
theorem erase_filter {α : Type} : ∀ (l : List α) (k p : Nat), ((l.zipIdx k).filter fun q => decide (q.2 ≠ k + p)).map (·.1) = l.eraseIdx p
  | [], _, _ => by simp
  | x :: l, k, 0 => by
    have all_ : ∀ (l : List α) (j : Nat), k < j → ((l.zipIdx j).filter fun q => decide (q.2 ≠ k + 0)).map (·.1) = l := by
      intro l
      induction l with
      | nil => intro j _; rfl
      | cons y l ih =>
        intro j hj
        rw [List.zipIdx_cons, List.filter_cons_of_pos (by simp; omega), List.map_cons, ih (j + 1) (by omega)]
    rw [List.zipIdx_cons, List.filter_cons_of_neg (by simp), all_ l (k + 1) (by omega)]
    rfl
  | x :: l, k, p + 1 => by
    rw [List.zipIdx_cons, List.filter_cons_of_pos (by simp), List.map_cons]
    have := erase_filter l (k + 1) p
    have e : k + 1 + p = k + (p + 1) := by omega
    rw [e] at this
    rw [this]
    rfl

/-! ### the text of data tells a row of 0 and 1 -/
def tx (x : Str) : List Nat := x.cps.toList
theorem tx_app (a b : Str) : tx (a ++ b) = tx a ++ tx b := by
  show (a.cps ++ b.cps).toList = _
  rw [Array.toList_append]; rfl
theorem tx_inj {a b : Str} (h : tx a = tx b) : a = b := by
  cases a; cases b
  unfold tx at h
  congr 1
  exact Array.toList_inj.mp h
theorem tx_of (s : String) : tx (PySem.Str.ofString s) = s.toList.map Char.toNat := by
  unfold tx
  rw [PySem.Str.ofString_eq_toList]
def J : List (List Nat) → List Nat
  | [] => []
  | [t] => t
  | t :: r => t ++ [44, 32] ++ J r
theorem J_cc {t u : List Nat} {r : List (List Nat)} : J (t :: u :: r) = t ++ [44, 32] ++ J (u :: r) := rfl
theorem tx_join : ∀ ts : List Str, tx (Str.join ", " ts) = J (ts.map tx)
  | [] => rfl
  | [t] => rfl
  | t :: u :: r => by
    show tx (t ++ ", " ++ Str.join ", " (u :: r)) = _
    rw [tx_app, tx_app, tx_join (u :: r)]
    rfl
def clo (n : Nat) : List Nat := if n = 1 then [44, 41] else [41]
theorem tx_tup (ds : List D) : tx (PyData.tuple ds).shown = 40 :: (J (ds.map fun d => tx d.shown) ++ clo ds.length) := by
  have e : (PyData.tuple ds).shown = tupleText (ds.map PyData.shown) := by simp [PyData.shown, shownAll_eq]
  rw [e]
  unfold tupleText
  rw [tx_app, tx_app, tx_join, List.map_map]
  have e1 : tx ("(" : Str) = [40] := by decide +kernel
  rw [e1, List.append_assoc, List.singleton_append]
  have e2 : tx ((if (ds.map PyData.shown).length == 1 then ",)" else ")" : String) : Str) = clo ds.length := by
    unfold clo
    rw [List.length_map]
    by_cases h : ds.length = 1
    · rw [if_pos h, if_pos (by simpa using h)]; decide +kernel
    · rw [if_neg h, if_neg (by simpa using h)]; decide +kernel
  rw [e2]
  rfl
def dig (c : Nat) : Prop := 48 ≤ c ∧ c ≤ 57
/-- how a text begins, that is no number's -/
def hdOk (c : Nat) : Prop := c = 78 ∨ c = 84 ∨ c = 70 ∨ c = 34 ∨ c = 39 ∨ c = 91 ∨ c = 40 ∨ c = 123 ∨ c = 45
theorem foldl_pre (q : Nat) : ∀ (l : List Nat) (acc : Array Nat), ∃ r, (l.foldl (fun out c => out ++ (Builtin.Str.reprChar q c).toArray) acc).toList = acc.toList ++ r
  | [], acc => ⟨[], by simp⟩
  | c :: l, acc => by
    obtain ⟨r, hr⟩ := foldl_pre q l (acc ++ (Builtin.Str.reprChar q c).toArray)
    exact ⟨Builtin.Str.reprChar q c ++ r, by rw [List.foldl_cons, hr]; simp⟩
theorem textFrom_pre : ∀ (ts : List Str) (k : Nat) (acc : Str), ∃ r, tx (textFrom k acc ts) = tx acc ++ r
  | [], _, acc => ⟨[], by simp [textFrom]⟩
  | t :: ts, k, acc => by
    obtain ⟨r, hr⟩ := textFrom_pre ts (k + 1) (acc ++ (if k > 0 then ", " else "" : String) ++ t)
    refine ⟨tx (if k > 0 then ", " else "" : String) ++ tx t ++ r, ?_⟩
    rw [textFrom, hr, tx_app, tx_app]
    simp
theorem tx_nat (n : Nat) : tx (PyData.int (n : Int)).shown = (Nat.toDigits 10 n).map Char.toNat := by
  have e : (PyData.int (n : Int)).shown = PySem.Str.ofString (toString (n : Int)) := by simp [PyData.shown]
  rw [e, tx_of]
  show (Nat.repr n).toList.map Char.toNat = _
  rw [Nat.toList_repr]
/-- no text of data but a number not less than 0 begins by a digit -/
theorem hd_of (d : D) : (∃ n : Nat, d = .int (n : Int)) ∨ ∃ c r, tx d.shown = c :: r ∧ hdOk c := by
  cases d with
  | none => exact .inr ⟨78, [111, 110, 101], by simp only [PyData.shown]; decide +kernel, .inl rfl⟩
  | bool b =>
    cases b
    · exact .inr ⟨70, [97, 108, 115, 101], by simp only [PyData.shown]; decide +kernel, by simp [hdOk]⟩
    · exact .inr ⟨84, [114, 117, 101], by simp only [PyData.shown]; decide +kernel, by simp [hdOk]⟩
  | int i =>
    cases i with
    | ofNat n => exact .inl ⟨n, rfl⟩
    | negSucc n =>
      right
      have e : (PyData.int (Int.negSucc n)).shown = PySem.Str.ofString ("-" ++ Nat.repr (n + 1)) := by
        simp only [PyData.shown]; rfl
      rw [e, tx_of, String.toList_append]
      exact ⟨45, (Nat.repr (n + 1)).toList.map Char.toNat, by simp, by simp [hdOk]⟩
  | str x =>
    right
    have e : (PyData.str x).shown = reprText x := by simp [PyData.shown]
    rw [e]
    unfold reprText tx
    rw [Array.toList_push, ← Array.foldl_toList]
    obtain ⟨r, hr⟩ := foldl_pre (reprQuote x) x.cps.toList #[reprQuote x]
    rw [hr]
    refine ⟨reprQuote x, r ++ [reprQuote x], by simp, ?_⟩
    unfold reprQuote
    split <;> simp [hdOk]
  | list xs =>
    right
    have e : (PyData.list xs).shown = listText (xs.map PyData.shown) := by simp [PyData.shown, shownAll_eq]
    rw [e]
    unfold listText
    rw [tx_app]
    obtain ⟨r, hr⟩ := textFrom_pre (xs.map PyData.shown) 0 "["
    rw [hr]
    have e1 : tx ("[" : Str) = [91] := by decide +kernel
    exact ⟨91, r ++ tx ("]" : Str), by rw [e1]; simp, by simp [hdOk]⟩
  | tuple xs => exact .inr ⟨40, _, tx_tup xs, by simp [hdOk]⟩
  | dict kvs =>
    right
    have e : (PyData.dict kvs).shown = dictText (PyData.shownKv kvs) := by simp [PyData.shown]
    rw [e]
    unfold dictText
    rw [tx_app, tx_app]
    have e1 : tx ("{" : Str) = [123] := by decide +kernel
    exact ⟨123, _, by rw [e1]; simp; rfl, by simp [hdOk]⟩
theorem hdOk_dig {c : Nat} (h : hdOk c) : ¬ dig c := by unfold hdOk at h; unfold dig; omega
theorem tx_ne (d : D) : ∃ c r, tx d.shown = c :: r ∧ c ≠ 41 := by
  rcases hd_of d with ⟨n, rfl⟩ | ⟨c, r, h, hc⟩
  · rw [tx_nat]
    cases h : Nat.toDigits 10 n with
    | nil => exact absurd h Nat.toDigits_ne_nil
    | cons a r =>
      have := Nat.isDigit_of_mem_toDigits (b := 10) (n := n) (c := a) (by decide) (by decide) (by rw [h]; exact List.mem_cons_self ..)
      refine ⟨a.toNat, r.map Char.toNat, rfl, fun e => ?_⟩
      have e2 : a = ')' := Char.toNat_inj.mp e
      subst e2
      exact absurd this (by decide)
  · exact ⟨c, r, h, by unfold hdOk at hc; omega⟩
theorem dig_of {a : Char} (h : a.isDigit = true) : dig a.toNat := by
  simp only [Char.isDigit, Bool.and_eq_true, decide_eq_true_eq] at h
  obtain ⟨h1, h2⟩ := h
  exact ⟨by simpa [UInt32.le_iff_toNat_le] using h1, by simpa [UInt32.le_iff_toNat_le] using h2⟩
/-- one item ahead of what is no digit -/
theorem item_of {d : D} {b : Int} {u s : List Nat} (hb : b = 0 ∨ b = 1) (h : tx d.shown ++ u = tx (PyData.int b).shown ++ s) (hu : ∃ f u', u = f :: u' ∧ ¬ dig f) (hs : ∃ f s', s = f :: s' ∧ ¬ dig f) : d = .int b ∧ u = s := by
  have eb : ∃ c : Nat, tx (PyData.int b).shown = [c] ∧ dig c := by
    rcases hb with rfl | rfl
    · exact ⟨48, by rw [show (0 : Int) = ((0 : Nat) : Int) from rfl, tx_nat]; decide +kernel, by unfold dig; omega⟩
    · exact ⟨49, by rw [show (1 : Int) = ((1 : Nat) : Int) from rfl, tx_nat]; decide +kernel, by unfold dig; omega⟩
  obtain ⟨c, ec, hc⟩ := eb
  have h0 := h
  rw [ec] at h
  rcases hd_of d with ⟨n, rfl⟩ | ⟨c', r, h', hc'⟩
  · have hdig : ∀ x ∈ tx (PyData.int (n : Int)).shown, dig x := fun x hx => by
      rw [tx_nat] at hx
      obtain ⟨a, ha, rfl⟩ := List.mem_map.mp hx
      exact dig_of (Nat.isDigit_of_mem_toDigits (by decide) (by decide) ha)
    have hne : tx (PyData.int (n : Int)).shown ≠ [] := by
      rw [tx_nat]
      simpa using Nat.toDigits_ne_nil
    cases hx : tx (PyData.int (n : Int)).shown with
    | nil => exact absurd hx hne
    | cons a r =>
      rw [hx] at h hdig
      cases r with
      | cons a' r =>
        obtain ⟨f, s', rfl, hf⟩ := hs
        simp only [List.cons_append, List.nil_append, List.cons.injEq] at h
        exact absurd (h.2.1 ▸ hdig a' (by simp)) hf
      | nil =>
        simp only [List.cons_append, List.nil_append, List.cons.injEq] at h
        obtain ⟨rfl, hu'⟩ := h
        refine ⟨?_, hu'⟩
        have hn : n < 10 := by
          have := (Nat.length_toDigits_le_iff (n := n) (b := 10) (k := 1) (by decide) (by decide)).mp (by
            have e := congrArg List.length hx
            rw [tx_nat, List.length_map] at e
            simp at e
            omega)
          simpa using this
        rw [← ec] at hx
        rw [tx_nat] at hx
        have d9 : ∀ m : Nat, m < 10 → ∀ k : Nat, k ≤ 1 → (Nat.toDigits 10 m).map Char.toNat = (Nat.toDigits 10 k).map Char.toNat → m = k := by decide +kernel
        rcases hb with rfl | rfl
        · rw [show (0 : Int) = ((0 : Nat) : Int) from rfl, tx_nat] at hx
          rw [d9 n hn 0 (by omega) hx]; rfl
        · rw [show (1 : Int) = ((1 : Nat) : Int) from rfl, tx_nat] at hx
          rw [d9 n hn 1 (by omega) hx]; rfl
  · rw [h'] at h
    simp only [List.cons_append, List.cons.injEq] at h
    exact absurd (h.1 ▸ hc) (hdOk_dig hc')
theorem n44 : ¬ dig 44 := by unfold dig; omega
theorem n41 : ¬ dig 41 := by unfold dig; omega
theorem row_tail : ∀ {bs : List Int} {ds : List D}, (∀ b ∈ bs, b = 0 ∨ b = 1) → bs ≠ [] → ds ≠ [] → J (ds.map fun d => tx d.shown) ++ [41] = J (bs.map fun b => tx (PyData.int b).shown) ++ [41] → ds = bs.map .int
  | [b], [d], hb, _, _, h => by
    obtain ⟨e, _⟩ := item_of (hb b (by simp)) (show tx d.shown ++ [41] = _ ++ [41] from h) ⟨41, _, rfl, n41⟩ ⟨41, _, rfl, n41⟩
    rw [e]; rfl
  | [b], d :: e :: q, hb, _, _, h => by
    simp only [List.map_cons, J_cc, List.append_assoc] at h
    obtain ⟨_, h2⟩ := item_of (hb b (by simp)) h ⟨44, _, rfl, n44⟩ ⟨41, _, rfl, n41⟩
    simp at h2
  | b :: b' :: r, [d], hb, _, _, h => by
    simp only [List.map_cons, J_cc, List.append_assoc] at h
    obtain ⟨_, h2⟩ := item_of (hb b (by simp)) h ⟨41, _, rfl, n41⟩ ⟨44, _, rfl, n44⟩
    simp at h2
  | b :: b' :: r, d :: e :: q, hb, _, _, h => by
    simp only [List.map_cons, J_cc, List.append_assoc] at h
    obtain ⟨h1, h2⟩ := item_of (hb b (by simp)) h ⟨44, _, rfl, n44⟩ ⟨44, _, rfl, n44⟩
    have ih := row_tail (bs := b' :: r) (ds := e :: q) (fun x hx => hb x (List.mem_cons_of_mem _ hx)) (by simp) (by simp) (by simpa using h2)
    rw [h1, ih]
    rfl
  | [], _, _, h, _, _ => absurd rfl h
  | _ :: _, [], _, _, h, _ => absurd rfl h
theorem row_shown {bs : List Int} {d : D} (hb : ∀ b ∈ bs, b = 0 ∨ b = 1) (h : d.shown = (dInts bs).shown) : d = dInts bs := by
  have h' := congrArg tx h
  have eB : tx (dInts bs).shown = 40 :: (J (bs.map fun b => tx (PyData.int b).shown) ++ clo bs.length) := by
    unfold dInts
    rw [tx_tup, List.map_map, List.length_map]
    rfl
  rw [eB] at h'
  cases d with
  | tuple ds =>
    rw [tx_tup] at h'
    simp only [List.cons.injEq, true_and] at h'
    show PyData.tuple ds = .tuple (bs.map .int)
    congr 1
    match bs, ds, hb, h' with
    | [], [], _, _ => rfl
    | [], [d], _, h' =>
      obtain ⟨c, r, e, hc⟩ := tx_ne d
      simp [J, clo, e] at h'
    | [], d :: e :: q, _, h' =>
      obtain ⟨c, r, e', hc⟩ := tx_ne d
      simp [J, clo, e', hc] at h'
    | [b], [], hb, h' =>
      obtain ⟨c, r, e, hc⟩ := tx_ne (.int b)
      simp [J, clo, e] at h'
    | [b], [d], hb, h' =>
      obtain ⟨h1, _⟩ := item_of (hb b (by simp)) h' ⟨44, _, rfl, n44⟩ ⟨44, _, rfl, n44⟩
      rw [h1]; rfl
    | [b], d :: e :: q, hb, h' =>
      simp only [List.map_cons, J_cc, List.append_assoc] at h'
      obtain ⟨_, h2⟩ := item_of (hb b (by simp)) h' ⟨44, _, rfl, n44⟩ ⟨44, _, rfl, n44⟩
      simp [clo] at h2
    | b :: b' :: r, [], hb, h' =>
      obtain ⟨c, r, e, hc⟩ := tx_ne (.int b)
      simp only [List.map_cons, J_cc, List.append_assoc, e] at h'
      simp [J, clo] at h'
    | b :: b' :: r, [d], hb, h' =>
      simp only [List.map_cons, J_cc, List.append_assoc] at h'
      obtain ⟨_, h2⟩ := item_of (hb b (by simp)) h' ⟨44, _, rfl, n44⟩ ⟨44, _, rfl, n44⟩
      simp [clo] at h2
    | b :: b' :: r, d :: e :: q, hb, h' => exact row_tail hb (by simp) (by simp) (by simpa [clo] using h')
  | int i =>
    exfalso
    rcases hd_of (.int i) with ⟨n, e⟩ | ⟨c, r, e, hc⟩
    · rw [e, tx_nat] at h'
      cases hx : Nat.toDigits 10 n with
      | nil => exact Nat.toDigits_ne_nil hx
      | cons a r =>
        have := dig_of (Nat.isDigit_of_mem_toDigits (b := 10) (n := n) (c := a) (by decide) (by decide) (by rw [hx]; exact List.mem_cons_self ..))
        rw [hx] at h'
        simp only [List.map_cons, List.cons.injEq] at h'
        rw [h'.1] at this
        unfold dig at this
        omega
    · cases i with
      | ofNat n =>
        rw [show (PyData.int (Int.ofNat n)) = .int (n : Int) from rfl, tx_nat] at e
        have : c ∈ (Nat.toDigits 10 n).map Char.toNat := by rw [e]; exact List.mem_cons_self ..
        obtain ⟨a, ha, rfl⟩ := List.mem_map.mp this
        exact hdOk_dig hc (dig_of (Nat.isDigit_of_mem_toDigits (by decide) (by decide) ha))
      | negSucc n =>
        have e2 : (PyData.int (Int.negSucc n)).shown = PySem.Str.ofString ("-" ++ Nat.repr (n + 1)) := by
          simp only [PyData.shown]; rfl
        rw [e2, tx_of, String.toList_append] at h'
        simp at h'
  | none => exfalso; simp only [PyData.shown] at h'; exact absurd (congrArg List.head? h') (by rw [show tx ("None" : Str) = [78, 111, 110, 101] by decide +kernel]; simp)
  | bool b =>
    exfalso
    cases b
    · have e3 : tx (PyData.bool false).shown = [70, 97, 108, 115, 101] := by simp only [PyData.shown]; decide +kernel
      rw [e3] at h'
      simp at h'
    · have e3 : tx (PyData.bool true).shown = [84, 114, 117, 101] := by simp only [PyData.shown]; decide +kernel
      rw [e3] at h'
      simp at h'
  | str x =>
    exfalso
    have e : (PyData.str x).shown = reprText x := by simp [PyData.shown]
    rw [e] at h'
    unfold reprText tx at h'
    rw [Array.toList_push, ← Array.foldl_toList] at h'
    obtain ⟨r, hr⟩ := foldl_pre (reprQuote x) x.cps.toList #[reprQuote x]
    rw [hr] at h'
    simp only [List.cons_append, List.nil_append, List.cons.injEq] at h'
    have := h'.1
    unfold reprQuote at this
    split at this <;> omega
  | list xs =>
    exfalso
    have e : (PyData.list xs).shown = listText (xs.map PyData.shown) := by simp [PyData.shown, shownAll_eq]
    rw [e] at h'
    unfold listText at h'
    rw [tx_app] at h'
    obtain ⟨r, hr⟩ := textFrom_pre (xs.map PyData.shown) 0 "["
    rw [hr, show tx ("[" : Str) = [91] by decide +kernel] at h'
    simp at h'
  | dict kvs =>
    exfalso
    have e : (PyData.dict kvs).shown = dictText (PyData.shownKv kvs) := by simp [PyData.shown]
    rw [e] at h'
    unfold dictText at h'
    rw [tx_app, tx_app, show tx ("{" : Str) = [123] by decide +kernel] at h'
    simp at h'

/-! ### values otherwise, in full -/
def oddL : List D := [.none, .bool true, .bool false, .int 0, .int 1, .int (-1), .int 7, .int 100000000000, .str "", .str "a", .str "rungs", .tuple [], .tuple [.int 0], .tuple [.none], .list [], .list [.int 0], .dict [], .dict [(.str "a", .int 1)], .tuple [.tuple [.int 0, .int 0]]]
theorem f_oddM {P : Nat → Option FD} {W k : Nat} {st : Sto} (h : H_u_law_odd P) {n B : Nat} {Q : RV × Sto → Prop} (hp : PotAt n B st) (hB : B ≤ 10 ^ 15)
    (q : ∀ d st', d ∈ oddL → PotAt n (B + 1) st' → st'.length = st.length → Q (.v d, st')) : wp (evF P W (k + 3) 192 [dCell n] st) Q := by
  apply w_fn h.p rfl
  have p11 : ((10 : Int) ^ 11) = 100000000000 := by decide
  simp [b_u_law_odd, maxLen, dOf, -seqQ_nx]
  rw [seqQ_nx]
  simp
  refine f_of h.u_law_of (by simp) (by simp [maxLen]) hp hB fun d st' hd hp' hl' => ?_
  refine ⟨hl', q d st' ?_ hp' hl'⟩
  exact hd
/-- what can be shown by repr -/
structure Shw (k m : Nat) (d : D) : Prop where
  ok : shal k d = true ∨ (lfree d = true ∧ d.depth ≤ k)
  sh : d.showable = true
  le : d.shown.length ≤ m
theorem Shw.mono {k l m n : Nat} {d : D} (h : Shw k m d) (hk : k ≤ l) (hn : m ≤ n) : Shw l n d := ⟨h.ok.imp (fun z => sh_mono z hk) fun z => ⟨z.1, Nat.le_trans z.2 hk⟩, h.sh, Nat.le_trans h.le hn⟩
theorem Sho.shw {k m : Nat} {d : D} (h : Sho k d m) : Shw k m d := ⟨.inl h.fl, h.sh, h.le⟩
theorem b_reprS {k m : Nat} {d : D} (h : Shw k m d) (hk : k ≤ 20) (hm : m ≤ 100000) : blt .repr [d] = some (.v (.str d.shown)) := by
  have h1 : rpOk d = true := by
    unfold rpOk
    rw [Bool.or_eq_true, Bool.and_eq_true, decide_eq_true_eq]
    exact h.ok.imp (fun z => fl_sh z hk) fun z => ⟨z.1, Nat.le_trans z.2 hk⟩
  have h3 : d.shown.length ≤ maxLen := by simp only [maxLen]; exact Nat.le_trans h.le hm
  simp [blt, h1, h.sh, h3]
theorem lfrees_iff : ∀ {xs : List D}, lfrees xs = true ↔ ∀ d ∈ xs, lfree d = true
  | [] => by simp [lfrees]
  | x :: r => by simp [lfrees, lfrees_iff (xs := r)]
theorem depthAll_le {n : Nat} : ∀ {xs : List D}, PyData.depthAll xs ≤ n ↔ ∀ d ∈ xs, d.depth ≤ n
  | [] => by simp [PyData.depthAll]
  | x :: r => by simp [PyData.depthAll, Nat.max_le, depthAll_le (xs := r)]
theorem shal_depth {k : Nat} {d : D} (h : shal k d = true) : d.depth ≤ k := by
  simp only [shal, Bool.and_eq_true, decide_eq_true_eq] at h
  exact h.2
/-- a tuple of plain ones and at most one that is not -/
theorem shw_one {k m : Nat} {xs ys : List D} {e : D} (he : Shw k m e) (hx : ∀ d ∈ xs ++ ys, Shw k m d ∧ shal k d = true ∧ lfree d = true) : Shw (k + 1) ((xs.length + ys.length + 1) * (m + 2) + 3) (.tuple (xs ++ [e] ++ ys)) := by
  have mem : ∀ d, d ∈ xs ++ [e] ++ ys → d = e ∨ d ∈ xs ++ ys := fun d hd => by
    simp only [List.mem_append, List.mem_cons, List.not_mem_nil, or_false] at hd ⊢
    rcases hd with (h | h) | h
    · exact .inr (.inl h)
    · exact .inl h
    · exact .inr (.inr h)
  refine ⟨?_, show_tup fun d hd => ?_, ?_⟩
  · rcases he.ok with h | ⟨h, hd⟩
    · left
      refine sh_tup fun d hd => ?_
      rcases mem d hd with rfl | hd
      · exact h
      · exact (hx d hd).2.1
    · right
      refine ⟨?_, ?_⟩
      · simp only [lfree]
        refine lfrees_iff.mpr fun d hd => ?_
        rcases mem d hd with rfl | hd
        · exact h
        · exact (hx d hd).2.2
      · simp only [PyData.depth]
        refine Nat.succ_le_succ (depthAll_le.mpr fun d hd' => ?_)
        rcases mem d hd' with rfl | hd'
        · exact hd
        · exact (shal_depth (hx d hd').2.1)
  · rcases mem d hd with rfl | hd
    · exact he.sh
    · exact (hx d hd).1.sh
  · have := tup_len (xs := xs ++ [e] ++ ys) (m := m) fun d hd => by
      rcases mem d hd with rfl | hd
      · exact he.le
      · exact (hx d hd).1.le
    refine Nat.le_trans this ?_
    simp only [List.length_append, List.length_singleton]
    have : xs.length + 1 + ys.length = xs.length + ys.length + 1 := by omega
    rw [this]
    exact Nat.le_refl _
def Bnt (P : Nat → Option FD) (W k c : Nat) (x : D) (A : D → Prop) : Prop := ∀ (n B : Nat) (st : Sto) (Q : RV × Sto → Prop), PotAt n B st → B + c ≤ 10 ^ 14 → (∀ d st', A d → PotAt n (B + c) st' → st'.length = st.length → Q (.v d, st')) → wp (evF P W k 62 [dCell n, x] st) Q
theorem eqv_t0 {ds : List D} : PyData.eqv (.tuple ds) (.tuple []) = ds.isEmpty := by
  cases ds <;> simp [PyData.eqv, PyData.eqvAll]
theorem bnt_strM {P : Nat → Option FD} {W k c : Nat} (h : H_u_law_bent P) {x : Str} (hc : 1 ≤ c) {A : D → Prop} (ha : ∀ d ∈ oddL, A d) : Bnt P W (k + 4) c (.str x) A := fun n B st Q hp hB q => by
  apply w_fn h.p rfl
  have e1 := f_law_is_int (W := W) (k := k + 2) (st := st) h.u_law_is_int (d := .str x) (lo := -1000000000000000000000000000000) (hi := 1000000000000000000000000000000) rfl
  simp [b_u_law_bent, -seqQ_nx]
  rw [seqQ_nx]
  simp [-seqQ_nx]
  rw [seqQ_nx]
  simp [e1, -seqQ_nx]
  rw [seqQ_nx]
  simp
  exact f_oddM h.u_law_odd hp (by omega) fun d st' hd hp' hl' => ⟨hl', q d st' (ha d hd) (hp'.mono (by omega)) hl'⟩
def bentI (x : Int) : List D := [.int (x + 1), .int (x - 1), .int (-x), .str (toString x), .bool (decide (x = 1))] ++ oddL
theorem bnt_intM {P : Nat → Option FD} {W k c : Nat} (h : H_u_law_bent P) {x : Int} (hx : x = 0 ∨ x = 1) (hc : 2 ≤ c) {A : D → Prop} (ha : ∀ d ∈ bentI x, A d) : Bnt P W (k + 4) c (.int x) A := fun n B st Q hp hB q => by
  apply w_fn h.p rfl
  have e1 := f_law_is_int (W := W) (k := k + 2) (st := st) h.u_law_is_int (d := .int x) (lo := -1000000000000000000000000000000) (hi := 1000000000000000000000000000000) rfl
  have b1 : btw (-1000000000000000000000000000000) 1000000000000000000000000000000 (.int x) = true := by rcases hx with rfl | rfl <;> simp
  rw [b1] at e1
  have hs : blt .str [.int x] = some (.v (.str (toString x))) := by
    have : x.natAbs < 2 ^ 1900 := Nat.lt_of_le_of_lt (show x.natAbs ≤ 1 by omega) (by decide +kernel)
    simp [blt, this]
  simp [b_u_law_bent, -seqQ_nx]
  rw [seqQ_nx]
  simp [-seqQ_nx]
  rw [seqQ_nx]
  simp [e1, hs, c_eq, cast_eqv]
  refine f_oddM h.u_law_odd hp (by omega) fun d st' hd hp' hl' => ?_
  simp [maxLen]
  refine f_of h.u_law_of (by simp) (by simp [maxLen]) hp' (by omega) fun e st2 he hp2 hl2 => ?_
  refine ⟨hl2.trans hl', q e st2 (ha e ?_) (hp2.mono (by omega)) (hl2.trans hl')⟩
  simp only [List.mem_cons, List.not_mem_nil, or_false] at he
  unfold bentI
  rcases he with rfl | rfl | rfl | rfl | rfl | rfl
  · simp
  · simp
  · simp
  · simp
  · simp
  · exact List.mem_append_right _ hd
theorem bnt_tupM {P : Nat → Option FD} {W k c : Nat} (h : H_u_law_bent P) {ds : List D} {A C : D → Prop} (h0 : ds ≠ []) (hl : ds.length ≤ 50) (hf : flat (.tuple ds) = true)
    (hb : ∀ x ∈ ds, Bnt P W (k + 4) c x A)
    (cl : ∀ es : List D, es.length ≤ ds.length → (∀ e ∈ es, e ∈ ds) → C (.list es)) (cs : ∀ es : List D, es.length ≤ 2 * ds.length + 1 → (∀ e ∈ es, e ∈ ds ∨ e = .int 0) → C (.tuple es)) (c1 : C (.tuple [.tuple ds])) (co : ∀ d ∈ oddL, C d)
    (cr : ∀ (j : Nat) (e : D), j < ds.length → A e → C (.tuple (ds.take j ++ [e] ++ ds.drop (j + 1)))) : Bnt P W (k + 5) (c + 3) (.tuple ds) C := fun n B st Q hp hB q => by
  apply w_fn h.p rfl
  have hpos : 0 < ds.length := List.length_pos_iff.mpr h0
  have h1m : 1 ≤ maxLen := by simp [maxLen]
  have ft0 : flat (.tuple []) = true := by rfl
  simp [b_u_law_bent, c_ne, hf, ft0, eqv_t0, h0, -seqQ_nx]
  refine f_take h.u_law_take ?_ ?_ hp (by omega) fun v s1 v1 v2 hp1 hl1 => ?_
  · decide
  · unfold bd; decide
  by_cases hv : v = 0
  · -- one of the menu
    simp [hv, c_ne, cast_eqv, -seqQ_nx]
    rw [seqQ_nx]
    simp [-seqQ_nx]
    rw [seqQ_nx]
    have hi1 : asInt? (some (.int (-1))) = some (some (-1)) := ai_i (by omega) (by omega)
    have hi2 : asInt? (some (.int 1)) = some (some 1) := ai_i (by omega) (by omega)
    have t1 := sl_t (xs := ds) ai_n hi1
    have t2 := sl_t (xs := ds) ai_n hi2
    have t3 := sl_l (xs := ds) ai_n hi2
    have cl_ : ∀ a b, (cut ds a b).length ≤ ds.length := fun a b => by
      unfold cut; rw [List.length_take, List.length_drop]; omega
    have cm : ∀ a b, ∀ x ∈ cut ds a b, x ∈ ds := fun a b x hx => List.mem_of_mem_drop (List.mem_of_mem_take hx)
    have o1 : op2 .add (.tuple ds) (.tuple (cut ds none (some 1))) = some (.v (.tuple (ds ++ cut ds none (some 1)))) := by
      have := cl_ none (some 1)
      have : ds.length + (cut ds none (some 1)).length ≤ maxLen := by simp [maxLen]; omega
      simp [op2, this]
    have o2 : op2 .add (.tuple ds) (.tuple [.int 0]) = some (.v (.tuple (ds ++ [.int 0]))) := by
      have : ds.length + 1 ≤ maxLen := by simp [maxLen]; omega
      simp [op2, this]
    simp [t1, t2, t3, o1, o2, h1m]
    refine f_oddM h.u_law_odd (hp1.mono (Nat.le_refl _)) (by omega) fun d s2 hd1 hp2 hl2 => ?_
    simp [maxLen]
    refine f_of h.u_law_of (by simp) (by simp [maxLen]) hp2 (by omega) fun e s3 he hp3 hl3 => ?_
    refine ⟨(hl3.trans hl2).trans hl1, q e s3 ?_ (hp3.mono (by omega)) ((hl3.trans hl2).trans hl1)⟩
    simp only [List.mem_cons, List.not_mem_nil, or_false] at he
    rcases he with rfl | rfl | rfl | rfl | rfl | rfl | rfl | rfl
    · exact cl _ (Nat.le_refl _) fun e he => he
    · exact cs _ (by have := cl_ none (some (-1)); omega) fun e he => .inl (cm _ _ e he)
    · refine cs _ (by have := cl_ none (some 1); rw [List.length_append]; omega) fun e he => ?_
      rcases List.mem_append.mp he with he | he
      · exact .inl he
      · exact .inl (cm _ _ e he)
    · refine cs _ (by rw [List.length_append]; simp; omega) fun e he => ?_
      rcases List.mem_append.mp he with he | he
      · exact .inl he
      · rw [List.mem_singleton] at he; exact .inr he
    · exact cs _ (by rw [List.length_reverse]; omega) fun e he => .inl (List.mem_reverse.mp he)
    · exact c1
    · exact cl _ (cl_ none (some 1)) fun e he => cm _ _ e he
    · exact co _ hd1
  · simp [hv, c_ne, cast_eqv, -seqQ_nx]
    refine f_take h.u_law_take (by omega) ?_ hp1 (by omega) fun u s2 u1 u2 hp2 hl2 => ?_
    · exact bd_of (by omega) (by omega)
    obtain ⟨j, rfl⟩ := Int.eq_ofNat_of_zero_le u1
    have hj : j < ds.length := by omega
    have t1 := sl_t (xs := ds) (lo := none) (hi := some (.int (j : Int))) ai_n (ai_i (by omega) (by omega))
    have t2 := sl_t (xs := ds) (lo := some (.int ((j : Int) + 1))) (hi := none) (ai_i (by omega) (by omega)) ai_n
    rw [cut_take (by omega)] at t1
    rw [cut_drop (by omega), show ((j : Int) + 1).toNat = j + 1 by omega] at t2
    rw [seqQ_nx]
    simp [atI_nat, hj, t1, t2]
    refine hb _ (List.getElem_mem hj) n _ s2 _ hp2 (by omega) fun e s3 he hp3 hl3 => ?_
    have o1 : op2 .add (.tuple (ds.take j)) (.tuple [e]) = some (.v (.tuple (ds.take j ++ [e]))) := by
      have : (ds.take j).length + 1 ≤ maxLen := by rw [List.length_take]; simp [maxLen]; omega
      simp only [op2, List.length_singleton, this, if_true]
    have o2 : op2 .add (.tuple (ds.take j ++ [e])) (.tuple (ds.drop (j + 1))) = some (.v (.tuple (ds.take j ++ [e] ++ ds.drop (j + 1)))) := by
      have : (ds.take j ++ [e]).length + (ds.drop (j + 1)).length ≤ maxLen := by rw [List.length_append, List.length_take, List.length_drop]; simp [maxLen]; omega
      simp only [op2, this, if_true]
    simp only [h1m, true_and, d_v, o1, o2, wp_some]
    exact ⟨((hl3.trans hl2).trans hl1), q _ s3 (cr j e hj he) (hp3.mono (by omega)) ((hl3.trans hl2).trans hl1)⟩

/-! ### bent: a word, or a word and bits -/
theorem textFrom_len {m : Nat} : ∀ (ts : List Str) (k : Nat) (acc : Str), (∀ t ∈ ts, t.length ≤ m) → (textFrom k acc ts).length ≤ acc.length + ts.length * (m + 2)
  | [], k, acc, _ => by simp [textFrom]
  | t :: r, k, acc, h => by
    rw [textFrom]
    have := textFrom_len r (k + 1) (acc ++ (if k > 0 then ", " else "" : String) ++ t) fun x hx => h x (List.mem_cons_of_mem _ hx)
    rw [str_app, str_app] at this
    have h1 := h t (List.mem_cons_self ..)
    have e2 : ((if k > 0 then ", " else "" : String) : Str).length ≤ 2 := by split <;> decide +kernel
    rw [List.length_cons, Nat.succ_mul]
    omega
theorem list_len {xs : List D} {m : Nat} (h : ∀ d ∈ xs, d.shown.length ≤ m) : (PyData.list xs).shown.length ≤ xs.length * (m + 2) + 3 := by
  have e : (PyData.list xs).shown = listText (xs.map PyData.shown) := by simp [PyData.shown, shownAll_eq]
  rw [e]
  unfold listText
  rw [str_app]
  have e1 : ("[" : Str).length = 1 := by decide +kernel
  have e2 : ("]" : Str).length = 1 := by decide +kernel
  have := textFrom_len (m := m) (xs.map PyData.shown) 0 "[" (by simpa using h)
  rw [List.length_map] at this
  omega
theorem sho_listG {k m : Nat} {xs : List D} (h : ∀ d ∈ xs, Sho k d m) : Sho (k + 1) (.list xs) (xs.length * (m + 2) + 3) := ⟨sh_list fun d hd => (h d hd).fl, by
  simp only [PyData.showable]
  exact showAll_iff.mpr fun d hd => (h d hd).sh, list_len fun d hd => (h d hd).le⟩
structure okI (d : D) : Prop where
  v : nd d = true
  s : Shw 4 200 d
structure okE (d : D) : Prop where
  v : nd2 d = true
  s : Shw 8 5000 d
/-- a value that can be looked at -/
structure okQ (d : D) : Prop where
  v : okV d = true
  s : ∀ x y, d = .tuple [.str x, y] → Shw 8 5000 y
def okIb (d : D) : Bool := nd d && (shal 4 d || (lfree d && decide (d.depth ≤ 4))) && d.showable && decide (d.shown.length ≤ 200)
theorem okI_of {d : D} (h : okIb d = true) : okI d := by
  unfold okIb at h
  simp only [Bool.and_eq_true, Bool.or_eq_true, decide_eq_true_eq] at h
  exact ⟨h.1.1.1, ⟨h.1.1.2.imp id id, h.1.2, h.2⟩⟩
theorem okI_bent {x : Int} (hx : x = 0 ∨ x = 1) : ∀ d ∈ bentI x, okI d := by
  have h0 : (bentI 0).all okIb = true := by decide +kernel
  have h1 : (bentI 1).all okIb = true := by decide +kernel
  intro d hd
  rcases hx with rfl | rfl
  · exact okI_of (List.all_eq_true.mp h0 d hd)
  · exact okI_of (List.all_eq_true.mp h1 d hd)
def okEb (d : D) : Bool := nd2 d && (shal 4 d || (lfree d && decide (d.depth ≤ 4))) && d.showable && decide (d.shown.length ≤ 200)
theorem okE_odd : ∀ d ∈ oddL, okE d := by
  have h0 : oddL.all okEb = true := by decide +kernel
  intro d hd
  have h := List.all_eq_true.mp h0 d hd
  unfold okEb at h
  simp only [Bool.and_eq_true, Bool.or_eq_true, decide_eq_true_eq] at h
  exact ⟨h.1.1.1, (⟨h.1.1.2.imp id id, h.1.2, h.2⟩ : Shw 4 200 d).mono (by omega) (by omega)⟩
def notTwo : D → Bool
  | .tuple [.str _, _] => false
  | _ => true
theorem okQ_not {d : D} (h : okV d = true) (h2 : notTwo d = true) : okQ d := ⟨h, fun x y e => by subst e; cases h2⟩
theorem okQ_odd : ∀ d ∈ oddL, okQ d := by
  have h0 : (oddL.all fun d => okV d && notTwo d) = true := by decide +kernel
  intro d hd
  have h := List.all_eq_true.mp h0 d hd
  rw [Bool.and_eq_true] at h
  exact okQ_not h.1 h.2
theorem okQ_tup {ds : List D} (hl : ds.length ≤ 1000) (h : ∀ d ∈ ds, nd2 d = true) (hs : ∀ x y, ds = [.str x, y] → Shw 8 5000 y) : okQ (.tuple ds) := ⟨by
  simp only [okV_t, Bool.and_eq_true, List.all_eq_true, decide_eq_true_eq]
  exact ⟨h, by simp [maxLen]; omega⟩, fun x y e => by injection e with e; exact hs x y e⟩
theorem okQ_list {ds : List D} : okQ (.list ds) := ⟨rfl, fun x y e => by cases e⟩
theorem okE_int {x : Int} (h : -1000000000 ≤ x ∧ x ≤ 1000000000) : okE (.int x) := ⟨rfl, (Sho.shw (sho_int (k := 0) (m := 10) (by unfold bd; omega) (by omega) (by omega))).mono (by omega) (by omega)⟩
theorem okE_str {x : Str} (h : (PyData.str x).showable = true) (h2 : (PyData.str x).shown.length ≤ 100) : okE (.str x) := ⟨rfl, ⟨.inl (by simp [shal, PyData.plain, PyData.depth]), h, by omega⟩⟩
theorem okE_bits {xs : List Int} (h : ∀ x ∈ xs, x = 0 ∨ x = 1) (hl : xs.length ≤ 30) : okE (dInts xs) := by
  refine ⟨?_, (Sho.shw (sho_ints (xs := xs) (c := 30) (fun x hx => by rcases h x hx with rfl | rfl <;> omega) hl)).mono (by omega) (by omega)⟩
  simp only [dInts, nd2_t, Bool.and_eq_true, List.all_eq_true, decide_eq_true_eq]
  exact ⟨fun d hd => by obtain ⟨x, _, rfl⟩ := List.mem_map.mp hd; rfl, by simp [maxLen]; omega⟩
theorem okE_lbits {xs : List Int} (h : ∀ x ∈ xs, x = 0 ∨ x = 1) (hl : xs.length ≤ 30) : okE (.list (xs.map .int)) := by
  refine ⟨rfl, (Sho.shw (sho_listG (k := 0) (m := 11) (xs := xs.map .int) fun d hd => ?_)).mono (by omega) (by rw [List.length_map]; omega)⟩
  obtain ⟨x, hx, rfl⟩ := List.mem_map.mp hd
  exact sho_int (m := 10) (by rcases h x hx with rfl | rfl <;> (unfold bd; decide)) (by omega) (by omega)
theorem ints_of {xs : List Int} {es : List D} (h : ∀ e ∈ es, e ∈ xs.map PyData.int ∨ e = .int 0) (hx : ∀ x ∈ xs, x = 0 ∨ x = 1) : ∃ ys : List Int, es = ys.map .int ∧ ∀ y ∈ ys, y = 0 ∨ y = 1 := by
  induction es with
  | nil => exact ⟨[], rfl, by simp⟩
  | cons e r ih =>
    obtain ⟨ys, rfl, hy⟩ := ih fun d hd => h d (List.mem_cons_of_mem _ hd)
    have : ∃ y : Int, e = .int y ∧ (y = 0 ∨ y = 1) := by
      rcases h e (List.mem_cons_self ..) with he | he
      · obtain ⟨x, hx', rfl⟩ := List.mem_map.mp he
        exact ⟨x, rfl, hx x hx'⟩
      · exact ⟨0, he, .inl rfl⟩
    obtain ⟨y, rfl, hy'⟩ := this
    exact ⟨y :: ys, rfl, fun z hz => by
      rcases List.mem_cons.mp hz with rfl | hz
      · exact hy'
      · exact hy z hz⟩
theorem bnt_bits {P : Nat → Option FD} {W k : Nat} (h : H_u_law_bent P) {xs : List Int} (h0 : xs ≠ []) (hl : xs.length ≤ 10) (hx : ∀ x ∈ xs, x = 0 ∨ x = 1) : Bnt P W (k + 5) 5 (dInts xs) okE := by
  refine bnt_tupM (c := 2) (A := okI) h (by simpa using h0) (by simpa using by omega) fl_ints (fun d hd => ?_) (fun es h1 h2 => ?_) (fun es h1 h2 => ?_) ?_ okE_odd (fun j e hj he => ?_)
  · obtain ⟨x, hx', rfl⟩ := List.mem_map.mp hd
    exact bnt_intM h (hx x hx') (by omega) (okI_bent (hx x hx'))
  · obtain ⟨ys, rfl, hy⟩ := ints_of (xs := xs) (es := es) (fun e he => .inl (h2 e he)) hx
    simp only [List.length_map] at h1
    exact okE_lbits hy (by omega)
  · obtain ⟨ys, rfl, hy⟩ := ints_of (xs := xs) (es := es) h2 hx
    simp only [List.length_map] at h1
    exact okE_bits hy (by omega)
  · refine ⟨rfl, (Sho.shw (sho_tup (k := 1) (m := 133) (xs := [dInts xs]) fun d hd => ?_)).mono (by omega) (by simp)⟩
    rw [List.mem_singleton] at hd
    subst hd
    exact sho_ints (c := 10) (fun x hx' => by rcases hx x hx' with rfl | rfl <;> omega) hl
  · have hj' : j < xs.length := by simpa using hj
    have pl : ∀ d ∈ (xs.map PyData.int).take j ++ (xs.map PyData.int).drop (j + 1), ∃ x ∈ xs, d = .int x := fun d hd => by
      have : d ∈ xs.map PyData.int := by
        rcases List.mem_append.mp hd with hd | hd
        · exact List.mem_of_mem_take hd
        · exact List.mem_of_mem_drop hd
      obtain ⟨x, hx', rfl⟩ := List.mem_map.mp this
      exact ⟨x, hx', rfl⟩
    have hs := shw_one (k := 4) (m := 200) (e := e) (xs := (xs.map PyData.int).take j) (ys := (xs.map PyData.int).drop (j + 1)) he.s fun d hd => by
      obtain ⟨x, hx', rfl⟩ := pl d hd
      have s0 : Sho 4 (.int x) 200 := (sho_int (k := 4) (m := 10) (by rcases hx x hx' with rfl | rfl <;> (unfold bd; decide)) (by omega) (by omega)).mono (by omega) (by omega)
      exact ⟨Sho.shw s0, s0.fl, rfl⟩
    have hlen : ((xs.map PyData.int).take j).length + ((xs.map PyData.int).drop (j + 1)).length + 1 ≤ 10 := by
      rw [List.length_take, List.length_drop, List.length_map]; omega
    refine ⟨?_, hs.mono (by omega) ?_⟩
    · simp only [nd2_t, Bool.and_eq_true, List.all_eq_true, decide_eq_true_eq]
      refine ⟨fun d hd => ?_, by simp only [List.length_append, List.length_singleton, maxLen]; omega⟩
      simp only [List.mem_append, List.mem_singleton] at hd
      rcases hd with (hd | hd) | hd
      · obtain ⟨x, _, rfl⟩ := pl d (List.mem_append_left _ hd); rfl
      · subst hd; exact he.v
      · obtain ⟨x, _, rfl⟩ := pl d (List.mem_append_right _ hd); rfl
    · have := Nat.mul_le_mul_right 202 hlen
      exact Nat.le_trans (Nat.add_le_add_right this 3) (by omega)
/-- a word alone, or with bits -/
theorem bnt_word {P : Nat → Option FD} {W k : Nat} (h : H_u_law_bent P) {ds : List D} (hw : (∃ x, ds = [.str x] ∧ okE (.str x)) ∨ (∃ (x : Str) (xs : List Int), ds = [.str x, dInts xs] ∧ okE (.str x) ∧ xs ≠ [] ∧ xs.length ≤ 10 ∧ ∀ y ∈ xs, y = 0 ∨ y = 1)) : Bnt P W (k + 6) 8 (.tuple ds) okQ := by
  have hne : ds ≠ [] := by rcases hw with ⟨x, rfl, _⟩ | ⟨x, xs, rfl, _⟩ <;> simp
  have hl : ds.length ≤ 2 := by rcases hw with ⟨x, rfl, _⟩ | ⟨x, xs, rfl, _⟩ <;> simp
  have hE : ∀ d ∈ ds, okE d := by
    rcases hw with ⟨x, rfl, h1⟩ | ⟨x, xs, rfl, h1, h2, h3, h4⟩
    · intro d hd; rw [List.mem_singleton] at hd; subst hd; exact h1
    · intro d hd
      simp only [List.mem_cons, List.not_mem_nil, or_false] at hd
      rcases hd with rfl | rfl
      · exact h1
      · exact okE_bits h4 (by omega)
  have hnd : ∀ d ∈ ds, nd d = true := by
    rcases hw with ⟨x, rfl, h1⟩ | ⟨x, xs, rfl, h1, h2, h3, h4⟩
    · intro d hd; rw [List.mem_singleton] at hd; subst hd; rfl
    · intro d hd
      simp only [List.mem_cons, List.not_mem_nil, or_false] at hd
      rcases hd with rfl | rfl <;> rfl
  have hfl : flat (.tuple ds) = true := fl_sh (n := 2) (sh_tup fun d hd => by
    rcases hw with ⟨x, rfl, h1⟩ | ⟨x, xs, rfl, h1, h2, h3, h4⟩
    · rw [List.mem_singleton] at hd; subst hd; simp [shal, PyData.plain, PyData.depth]
    · simp only [List.mem_cons, List.not_mem_nil, or_false] at hd
      rcases hd with rfl | rfl
      · simp [shal, PyData.plain, PyData.depth]
      · exact sh_ints) (by omega)
  have hall : ∀ es : List D, es.length ≤ 100 → (∀ e ∈ es, okE e) → okQ (.tuple es) := fun es h1 h2 => okQ_tup (by omega) (fun d hd => (h2 d hd).v) fun x y e => by
    subst e
    exact (h2 y (by simp)).s
  refine bnt_tupM (k := k + 1) (c := 5) (A := okE) h hne (by omega) hfl (fun d hd => ?_) (fun es h1 h2 => okQ_list) (fun es h1 h2 => ?_) ?_ okQ_odd (fun j e hj he => ?_)
  · rcases hw with ⟨x, rfl, h1⟩ | ⟨x, xs, rfl, h1, h2, h3, h4⟩
    · rw [List.mem_singleton] at hd; subst hd
      exact bnt_strM h (by omega) okE_odd
    · simp only [List.mem_cons, List.not_mem_nil, or_false] at hd
      rcases hd with rfl | rfl
      · exact bnt_strM h (by omega) okE_odd
      · exact bnt_bits h h2 h3 h4
  · refine hall es (by omega) fun e he => ?_
    rcases h2 e he with h3 | rfl
    · exact hE e h3
    · exact okE_int (by omega)
  · refine okQ_not ?_ (by rfl)
    simp only [okV_t, Bool.and_eq_true, List.all_eq_true, decide_eq_true_eq]
    refine ⟨fun d hd => ?_, by simp [maxLen]⟩
    rw [List.mem_singleton] at hd
    subst hd
    simp only [nd2_t, Bool.and_eq_true, List.all_eq_true, decide_eq_true_eq]
    exact ⟨hnd, by simp [maxLen]; omega⟩
  · refine hall _ (by simp only [List.length_append, List.length_take, List.length_drop, List.length_singleton]; omega) fun d hd => ?_
    simp only [List.mem_append, List.mem_singleton] at hd
    rcases hd with (hd | hd) | hd
    · exact hE d (List.mem_of_mem_take hd)
    · subst hd; exact he
    · exact hE d (List.mem_of_mem_drop hd)

/-! ### orders -/
def cI (xs : List Nat) : List Int := xs.map fun n : Nat => (n : Int)
abbrev dN (xs : List Nat) : D := dInts (cI xs)
@[simp] theorem cI_len {xs : List Nat} : (cI xs).length = xs.length := by simp [cI]
theorem cI_inj {xs ys : List Nat} : cI xs = cI ys ↔ xs = ys := List.map_inj_right fun x y h => Int.ofNat.inj h
@[simp] theorem is_dI {xs : List Int} : isi .tup (dInts xs) = some true := (rfl)
@[simp] theorem look_dI {st : Sto} {xs : List Int} : look st (dInts xs) = dInts xs := (rfl)
@[simp] theorem it_dI {xs : List Int} : itemsOf (dInts xs) = some (xs.map .int) := (rfl)
@[simp] theorem len_dI {xs : List Int} : blt .len [dInts xs] = some (.v (.int xs.length)) := by simp [dInts]
structure okO (xs : List Nat) : Prop where
  perm : xs.Perm (List.range xs.length)
  lo : 1 ≤ xs.length
  hi : xs.length ≤ 10
theorem okO.lt {xs : List Nat} (h : okO xs) {x : Nat} (hx : x ∈ xs) : x < xs.length := List.mem_range.mp (h.perm.mem_iff.mp hx)
theorem okO.abtw {xs : List Nat} (h : okO xs) : abtw 0 ((xs.length : Int) - 1) (dN xs) = true := by
  simp only [dN, dInts, cI, abtw_t, List.all_map, List.all_eq_true, Function.comp_apply, btw_i, Bool.and_eq_true, decide_eq_true_eq]
  intro x hx
  have := h.lt hx
  omega
theorem okO.nd2 {xs : List Nat} (h : okO xs) : nd2 (dN xs) = true := by
  have := h.hi
  simp [dN, dInts, cI, maxLen]
  omega
theorem range_sorted (n : Nat) : (cI (List.range n)).Pairwise (· ≤ ·) := by
  unfold cI
  rw [List.pairwise_map]
  exact (List.pairwise_lt_range).imp fun h => by omega
theorem okO.sort {xs : List Nat} (h : okO xs) : sortI (cI xs) = cI (List.range xs.length) :=
  List.Perm.eq_of_pairwise (fun a b _ _ h1 h2 => by omega) (sortI_sorted _) (range_sorted _) ((sortI_perm _).trans (h.perm.map _))
theorem rangeL_cI (n : Nat) : rangeL 0 n = (cI (List.range n)).map .int := by
  simp [rangeL, cI, Function.comp_def]
theorem f_is_order_of {P : Nat → Option FD} {W k : Nat} {st : Sto} (h : H_is_order_of P) {xs : List Nat} (ok : okO xs) : evF P W (k + 4) 466 [.int xs.length, dN xs] st = some (.v (.bool true), st) := by
  apply eq_of_wp
  apply w_fn h.p rfl
  have := ok.hi
  have e1 := rng_1 (j := (xs.length : Int)) (by omega) (by omega)
  simp [b_is_order_of, f_are_between h.are_between ok.nd2, ok.abtw, b_sortT (xs := cI xs) (by simp [maxLen]; omega), e1, rangeL_cI, c_eq, fl_lints, eqv_lints, ok.sort]
theorem f_is_order {P : Nat → Option FD} {W k : Nat} {st : Sto} (h : H_is_order P) {xs : List Nat} (ok : okO xs) : evF P W (k + 5) 465 [dN xs] st = some (.v (.bool true), st) := by
  apply eq_of_wp
  apply w_fn h.p rfl
  have h1 := ok.hi
  have h2 := ok.lo
  have e := f_is_order_of (W := W) (k := k) (st := st) h.is_order_of ok
  simp [b_is_order, f_is_between h.is_between, e]
  omega
theorem f_check_order {P : Nat → Option FD} {W k : Nat} {st : Sto} (h : H_check_order P) {xs : List Nat} (ok : okO xs) : evF P W (k + 6) 319 [dN xs] st = some (.v .none, st) := by
  apply eq_of_wp
  apply w_fn h.p rfl
  simp [b_check_order, f_is_order h.is_order ok]

/-! ### falls, places, exchanges: over lists of naturals -/
theorem cI_at {xs : List Nat} {i : Nat} : (cI xs)[i]? = (xs[i]?).map fun n : Nat => (n : Int) := by simp [cI]
theorem sub_dN {xs : List Nat} {i : Nat} {x : Nat} (h : xs[i]? = some x) : sub2 (dN xs) (.int (i : Int)) = some (.int (x : Int)) := by
  show L2.atI _ _ = _
  obtain ⟨hl, rfl⟩ := List.getElem?_eq_some_iff.mp h
  unfold L2.atI L2.ixN
  simp [hl, cI]
/-- how many are at least n among the first t + 1 -/
def ahN (xs : List Nat) (t n : Nat) : Nat := ((xs.take (t + 1)).filter fun x => decide (n ≤ x)).length
def moreN (xs ys : List Nat) (t n : Nat) : Bool := decide (ahN ys t n < ahN xs t n)
/-- the first place at which more stand ahead -/
def rowN (xs ys : List Nat) (m t : Nat) : Option Nat := (List.range m).find? fun n => moreN xs ys t n
def firstN (xs ys : List Nat) : Option (Nat × Nat) := match (List.range xs.length).find? fun t => (rowN xs ys xs.length t).isSome with
  | none => none
  | some t => (rowN xs ys xs.length t).map fun n => (t, n)
def atD : Option (Nat × Nat) → D
  | none => .none
  | some p => .tuple [.int (p.1 : Int), .int (p.2 : Int)]
theorem find_none {p : Nat → Bool} {m : Nat} (h : ∀ j < m, p j = false) : (List.range m).find? p = none := List.find?_eq_none.mpr fun j hj => by simp [h j (List.mem_range.mp hj)]
theorem find_at {p : Nat → Bool} {m i : Nat} (hi : i < m) (hp : p i = true) (h : ∀ j < i, p j = false) : (List.range m).find? p = some i := by
  rw [List.find?_range_eq_some]
  exact ⟨hp, List.mem_range.mpr hi, fun j hj => by simp [h j hj]⟩
theorem rgN {m i : Nat} {d : D} (h : (rangeL 0 m)[i]? = some d) : i < m ∧ d = .int (i : Int) := by
  obtain ⟨h1, h2⟩ := rangeL_at h
  exact ⟨h1, by simpa using h2⟩
def exN (xs : List Nat) (i j : Nat) : List Nat := xs.take i ++ xs[j]?.getD 0 :: ((xs.drop (i + 1)).take (j - (i + 1)) ++ xs[i]?.getD 0 :: xs.drop (j + 1))
/-- how many fall -/
def prN (xs : List Nat) (i : Nat) : List Nat := ((List.range (xs.length - (i + 1))).map fun q => i + 1 + q).filter fun j => decide (xs[j]?.getD 0 < xs[i]?.getD 0)
def flN (xs : List Nat) : List (Nat × Nat) := (List.range xs.length).flatMap fun i => (prN xs i).map fun j => (i, j)
def dP (p : Nat × Nat) : D := .tuple [.int (p.1 : Int), .int (p.2 : Int)]
theorem rng2N {a b : Nat} (ha : a ≤ 1000) (hb : b ≤ 1000) : rangeOf [.int (a : Int), .int (b : Int)] = some ((List.range (b - a)).map fun q : Nat => .int ((a + q : Nat) : Int)) := by
  have h1 : small (a : Int) = true := by simp [small]; omega
  have h2 : small (b : Int) = true := by simp [small]; omega
  simp only [rangeOf, h1, h2]
  have h3 : decide ((b : Int) - a ≤ maxLen) = true := decide_eq_true (by have : (1000 : Int) ≤ (maxLen : Int) := by decide
                                                                         omega)
  simp [h3, rangeL]
def flI (xs : List Nat) (m : Nat) : List (Nat × Nat) := (List.range m).flatMap fun i => (prN xs i).map fun j => (i, j)
theorem flI_succ {xs : List Nat} {m : Nat} : flI xs (m + 1) = flI xs m ++ (prN xs m).map fun j => (m, j) := by simp [flI, List.range_succ]
theorem prN_len {xs : List Nat} {i : Nat} : (prN xs i).length ≤ xs.length := Nat.le_trans (List.length_filter_le _ _) (by simp)
theorem flI_len {xs : List Nat} {m : Nat} : (flI xs m).length ≤ m * xs.length := by
  induction m with
  | zero => simp [flI]
  | succ m ih =>
    rw [flI_succ]
    have := prN_len (xs := xs) (i := m)
    simp only [List.length_append, List.length_map, Nat.succ_mul]
    omega
theorem f_falls_of {P : Nat → Option FD} {W k : Nat} {st : Sto} (h : H_falls_of P) {xs : List Nat} (hl : xs.length ≤ 10) : evF P W (k + 1) 396 [dN xs] st = some (.o ((flN xs).map dP), st) := by
  apply eq_of_wp
  apply w_fn h.p rfl
  simp [b_falls_of]
  refine wp_loop (fun i ρ s => s = st ∧ i ≤ xs.length ∧ ∃ u v w, ρ = [some (.v (dN xs)), some (.o ((flI xs i).map dP)), u, v, w]) ⟨rfl, Nat.zero_le _, none, none, none, rfl⟩ ?_ ?_
  · rintro i d ρ s hd ⟨rfl, hi, u, v, w, rfl⟩
    rw [enumOf_eq] at hd
    rw [List.getElem?_map] at hd
    obtain ⟨i', hi', rfl⟩ := Option.map_eq_some_iff.mp hd
    obtain ⟨hlt, rfl⟩ : i < xs.length ∧ i' = i := by
      rw [List.getElem?_eq_some_iff] at hi'
      obtain ⟨q1, q2⟩ := hi'
      simp at q1 q2
      exact ⟨q1, q2.symm⟩
    have e1 := rng2N (a := i' + 1) (b := xs.length) (by omega) (by omega)
    have e2 : ((cI xs).map PyData.int)[i']?.getD PyData.none = .int ((xs[i']?.getD 0 : Nat) : Int) := by simp [cI, hlt]
    simp only [Int.natCast_add, Int.cast_ofNat_Int] at e1
    have e3 : (Option.map PyData.int (cI xs)[i']?).getD PyData.none = .int ((xs[i']?.getD 0 : Nat) : Int) := by simp [cI, hlt]
    simp [e1, e2, e3]
    refine wp_compIf (e := fun q : Nat => PyData.int ((i' : Int) + 1 + q)) (p := fun q => decide (xs[i' + 1 + q]?.getD 0 < xs[i']?.getD 0)) (f := fun q : Nat => dP (i', i' + 1 + q)) (fun q hq => ?_) ?_
    · have hq' : i' + 1 + q < xs.length := by have := List.mem_range.mp hq; omega
      have e4 : sub2 (dN xs) (.int ((i' : Int) + 1 + q)) = some (.int ((xs[i' + 1 + q]?.getD 0 : Nat) : Int)) := by
        have := sub_dN (xs := xs) (List.getElem?_eq_getElem hq')
        rw [List.getElem?_eq_getElem hq']
        simpa using this
      by_cases z : xs[i' + 1 + q]?.getD 0 < xs[i']?.getD 0
      · simp [e4, z, dP, maxLen]
      · simp [e4, z]
    · have e5 : ((List.range (xs.length - (i' + 1))).filter fun q => decide (xs[i' + 1 + q]?.getD 0 < xs[i']?.getD 0)).map (fun q : Nat => dP (i', i' + 1 + q)) = ((prN xs i').map fun j => (i', j)).map dP := by
        simp [prN, List.filter_map, Function.comp_def]
      have l1 := flI_len (xs := xs) (m := i')
      have l2 := prN_len (xs := xs) (i := i')
      have l3 : i' * xs.length ≤ 10 * 10 := Nat.mul_le_mul (by omega) hl
      rw [e5]
      refine ⟨by simp [maxLen]; omega, by simp [maxLen]; omega, rfl, by omega, ?_⟩
      rw [flI_succ, List.map_append]
  · rintro ρ s ⟨rfl, hi, u, v, w, rfl⟩
    rw [seqQ_nx]
    simp [enumOf_eq, flI, flN]
theorem fl_dI {xs : List Int} : flat (dInts xs) = true := fl_sh (n := 1) (sh_tup fun d hd => by
  obtain ⟨a, _, rfl⟩ := List.mem_map.mp hd
  exact sh_int) (by omega)
theorem any_cI {xs : List Nat} {a : Nat} : (((cI xs).map PyData.int).any fun z => PyData.eqv z (.int (a : Int))) = decide (a ∈ xs) := by
  rw [any_ints]
  refine decide_eq_decide.mpr ?_
  simp only [cI, List.mem_map]
  constructor
  · rintro ⟨b, hb, e⟩
    have : b = a := by omega
    rwa [← this]
  · exact fun h => ⟨a, h, rfl⟩
theorem c_notD {xs : List Nat} {a : Nat} : cmp2 .notin (.int (a : Int)) (dN xs) = some (.bool (!decide (a ∈ xs))) := by
  have h := fl_dI (xs := cI xs)
  unfold dInts at h
  unfold dN dInts
  simp only [cmp2, fl_int, h, Bool.and_self, if_true, any_cI]
/-- all sequences of t unlike numbers below m -/
def ordN (m : Nat) : Nat → List (List Nat)
  | 0 => [[]]
  | t + 1 => (ordN m t).flatMap fun row => ((List.range m).filter fun x => !decide (x ∈ row)).map fun x => row ++ [x]
theorem ordN_len {m t : Nat} (hm : m ≤ 6) (ht : t ≤ m) : (ordN m t).length ≤ 1000 := by
  have key : ∀ m < 7, ∀ t < m + 1, (ordN m t).length ≤ 1000 := by decide +kernel
  exact key m (by omega) t (by omega)
theorem ordN_row {m t : Nat} {row : List Nat} (h : row ∈ ordN m t) : row.length = t := by
  induction t generalizing row with
  | zero => simp [ordN] at h; simp [h]
  | succ t ih =>
    simp only [ordN, List.mem_flatMap, List.mem_map] at h
    obtain ⟨r, hr, x, _, rfl⟩ := h
    simp [ih hr]
def exRow (m : Nat) (row : List Nat) : List (List Nat) := ((List.range m).filter fun x => !decide (x ∈ row)).map fun x => row ++ [x]
def parO (m t i : Nat) : List (List Nat) := ((ordN m t).take i).flatMap (exRow m)
theorem parO_zero {m t : Nat} : parO m t 0 = [] := by simp [parO]
theorem parO_all {m t : Nat} : parO m t (ordN m t).length = ordN m (t + 1) := by simp [parO, ordN]; rfl
theorem parO_succ {m t i : Nat} {row : List Nat} (h : (ordN m t)[i]? = some row) : parO m t (i + 1) = parO m t i ++ exRow m row := by
  unfold parO
  rw [List.take_add_one, h]
  simp
theorem parO_len {m t i : Nat} (hm : m ≤ 6) (ht : t < m) : (parO m t i).length ≤ 1000 := by
  have h := ordN_len (m := m) (t := t + 1) hm (by omega)
  have e : ordN m (t + 1) = parO m t i ++ ((ordN m t).drop i).flatMap (exRow m) := by
    unfold parO
    rw [← List.flatMap_append, List.take_append_drop]
    rfl
  rw [e, List.length_append] at h
  omega
theorem exRow_len {m : Nat} {row : List Nat} : (exRow m row).length ≤ m := by
  unfold exRow
  rw [List.length_map]
  exact Nat.le_trans (List.length_filter_le _ _) (by simp)

theorem ordN_nodup {m t : Nat} {row : List Nat} (h : row ∈ ordN m t) : row.Nodup ∧ ∀ x ∈ row, x < m := by
  induction t generalizing row with
  | zero => simp [ordN] at h; subst h; simp
  | succ t ih =>
    simp only [ordN, List.mem_flatMap, List.mem_map, List.mem_filter] at h
    obtain ⟨r, hr, x, ⟨hx, hx2⟩, rfl⟩ := h
    obtain ⟨h1, h2⟩ := ih hr
    have hx3 : x ∉ r := by simpa using hx2
    refine ⟨List.nodup_append.mpr ⟨h1, by simp, fun a ha b hb => ?_⟩, fun y hy => ?_⟩
    · simp at hb
      subst hb
      exact fun z => hx3 (z ▸ ha)
    · rcases List.mem_append.mp hy with q | q
      · exact h2 y q
      · simp at q; subst q; exact List.mem_range.mp hx

theorem wp_while {F : FT} {W : Nat} {c : CE} {b : CSs} {ρ : Rho} {st : Sto} {Q : Fl → Prop} (I : Nat → Rho → Sto → Prop) (m : Nat) (hm : m < W) (h0 : I 0 ρ st)
    (hs : ∀ i ρ s, i < m → I i ρ s → wp (evE F c ρ s) fun p => truth p.1.d = some true ∧ wp (evSs F W b ρ p.2) fun fl => ∃ ρ1 s1, fl = .nx ρ1 s1 ∧ I (i + 1) ρ1 s1)
    (hq : ∀ ρ s, I m ρ s → wp (evE F c ρ s) fun p => truth p.1.d = some false ∧ Q (.nx ρ p.2)) : wp (evS F W (.while_ c b) ρ st) Q := by
  have key : ∀ (k i w : Nat) (ρ : Rho) (st : Sto), k = m - i → i ≤ m → k < w → I i ρ st → wp (loopW (fun ρ st => match evE F c ρ st with
      | some (x, st1) => match truth x.d with
        | some k => some (k, st1)
        | none => none
      | none => none) (fun ρ st => evSs F W b ρ st) w ρ st) Q := by
    intro k
    induction k with
    | zero =>
      intro i w ρ st hk hi hw h
      have : i = m := by omega
      subst this
      obtain ⟨w, rfl⟩ : ∃ v, w = v + 1 := ⟨w - 1, by omega⟩
      obtain ⟨⟨x, s1⟩, e, t, q⟩ := hq ρ st h
      simp only [loopW, e, t, wp_some]
      exact q
    | succ k ih =>
      intro i w ρ st hk hi hw h
      obtain ⟨w, rfl⟩ : ∃ v, w = v + 1 := ⟨w - 1, by omega⟩
      obtain ⟨⟨x, s1⟩, e, t, fl, e2, ρ1, s2, rfl, q⟩ := hs i ρ st (by omega) h
      simp only [loopW, e, t]
      simp only at e2
      rw [e2]
      exact ih (i + 1) w ρ1 s2 (by omega) (by omega) (by omega) q
  simp only [evS]
  exact key m 0 W ρ st rfl (Nat.zero_le _) hm h0

def dfN (xs ys : List Nat) : List Nat := (List.range xs.length).filter fun i => decide (xs[i]?.getD 0 ≠ ys[i]?.getD 0)
def fiN (xs ys : List Nat) (t : Nat) : List Nat := ((List.range (xs.length - (t + 1))).map fun q => t + 1 + q).filter fun p => decide (xs[t]?.getD 0 ≤ ys[p]?.getD 0) && decide (ys[p]?.getD 0 < ys[t]?.getD 0)
def stpN (xs ys : List Nat) : Option (Nat × Nat) := match (dfN xs ys).head? with
  | none => none
  | some t => (fiN xs ys t).head?.map fun f => (t, f)
def rdN : Nat → List Nat → List Nat → Option (List (Nat × Nat))
  | 0, xs, ys => if ys = xs then some [] else none
  | k + 1, xs, ys => if ys = xs then some [] else match stpN xs ys with
    | none => none
    | some p => (rdN k xs (exN ys p.1 p.2)).map fun l => p :: l
theorem rdN_nil {k : Nat} {xs ys : List Nat} (h : rdN k xs ys = some []) : ys = xs := by
  cases k with
  | zero =>
    simp only [rdN] at h
    split at h
    · assumption
    · cases h
  | succ k =>
    simp only [rdN] at h
    split at h
    · assumption
    · split at h
      · cases h
      · simp at h
theorem rdN_cons {k : Nat} {xs ys : List Nat} {p : Nat × Nat} {l : List (Nat × Nat)} (h : rdN k xs ys = some (p :: l)) : ys ≠ xs ∧ stpN xs ys = some p ∧ ∃ k', rdN k' xs (exN ys p.1 p.2) = some l := by
  cases k with
  | zero =>
    simp only [rdN] at h
    split at h
    · simp at h
    · cases h
  | succ k =>
    simp only [rdN] at h
    split at h
    · simp at h
    · rename_i hne
      split at h
      · cases h
      · rename_i q hq
        obtain ⟨l', h1, h2⟩ := Option.map_eq_some_iff.mp h
        cases h2
        exact ⟨hne, hq, k, h1⟩
theorem stpN_get {xs ys : List Nat} {p : Nat × Nat} (h : stpN xs ys = some p) : (∃ r, dfN xs ys = p.1 :: r) ∧ (∃ r, fiN xs ys p.1 = p.2 :: r) ∧ p.1 < p.2 ∧ p.2 < xs.length := by
  unfold stpN at h
  split at h
  · cases h
  · rename_i t ht
    obtain ⟨f, hf, rfl⟩ := Option.map_eq_some_iff.mp h
    refine ⟨List.head?_eq_some_iff.mp ht, List.head?_eq_some_iff.mp hf, ?_⟩
    have hm : f ∈ fiN xs ys t := List.mem_of_mem_head? hf
    simp only [fiN, List.mem_filter, List.mem_map, List.mem_range] at hm
    obtain ⟨⟨q, hq, rfl⟩, _⟩ := hm
    show t < t + 1 + q ∧ t + 1 + q < xs.length
    omega
theorem exN_len {xs : List Nat} {i j : Nat} (h : i < j) (hj : j < xs.length) : (exN xs i j).length = xs.length := by
  simp [exN]
  omega

/-- the exchanges with so many falls, in the sequence of the places -/
def swP (xs : List Nat) (m : Int) (i q : Nat) : List (List Nat) := ((List.range q).map fun r => exN xs i (i + 1 + r)).filter fun ys => decide (((flN ys).length : Int) = m)
def swN (xs : List Nat) (m : Int) (n : Nat) : List (List Nat) := (List.range n).flatMap fun i => swP xs m i (xs.length - (i + 1))
theorem swN_succ {xs : List Nat} {m : Int} {n : Nat} : swN xs m (n + 1) = swN xs m n ++ swP xs m n (xs.length - (n + 1)) := by simp [swN, List.range_succ]
theorem swP_succ {xs : List Nat} {m : Int} {i q : Nat} : swP xs m i (q + 1) = swP xs m i q ++ (if ((flN (exN xs i (i + 1 + q))).length : Int) = m then [exN xs i (i + 1 + q)] else []) := by
  simp only [swP, List.range_succ, List.map_append, List.filter_append, List.map_cons, List.map_nil]
  congr 1
  by_cases h : ((flN (exN xs i (i + 1 + q))).length : Int) = m <;> simp [h]
theorem swP_len {xs : List Nat} {m : Int} {i q : Nat} : (swP xs m i q).length ≤ q := Nat.le_trans (List.length_filter_le _ _) (by simp)
theorem swN_len {xs : List Nat} {m : Int} {n : Nat} : (swN xs m n).length ≤ n * xs.length := by
  induction n with
  | zero => simp [swN]
  | succ n ih =>
    rw [swN_succ]
    have := swP_len (xs := xs) (m := m) (i := n) (q := xs.length - (n + 1))
    simp only [List.length_append, Nat.succ_mul]
    omega
theorem flN_len (xs : List Nat) : (flN xs).length ≤ xs.length * xs.length := flI_len

theorem sl_ahead {xs : List Nat} {t : Nat} (hl : xs.length ≤ 10) (ht : t ≤ 10) : sl3 (dN xs) none (some (.int ((t : Int) + 1))) = some (.v (dInts (cI (xs.take (t + 1))))) := by
  rw [show dN xs = .tuple ((cI xs).map .int) from rfl, sl_t ai_n (ai_i (by omega) (by omega)), cut_take (by omega)]
  rw [show ((t : Int) + 1).toNat = t + 1 by omega]
  simp [dInts, cI, List.map_take]

theorem firstN_none {xs ys : List Nat} : firstN xs ys = none ↔ ∀ t < xs.length, ∀ n < xs.length, ahN xs t n ≤ ahN ys t n := by
  have row : ∀ t, rowN xs ys xs.length t = none ↔ ∀ n < xs.length, ahN xs t n ≤ ahN ys t n := fun t => by
    unfold rowN
    rw [List.find?_eq_none]
    constructor
    · intro h n hn
      have := h n (List.mem_range.mpr hn)
      simp only [moreN, decide_eq_true_eq] at this
      omega
    · intro h n hn
      have := h n (List.mem_range.mp hn)
      simp only [moreN, decide_eq_true_eq]
      omega
  constructor
  · intro h t ht
    refine (row t).mp ?_
    cases q : (List.range xs.length).find? (fun t => (rowN xs ys xs.length t).isSome) with
    | none =>
      have := List.find?_eq_none.mp q t (List.mem_range.mpr ht)
      simpa using this
    | some u =>
      have h1 := List.find?_some q
      obtain ⟨n, hn⟩ := Option.isSome_iff_exists.mp h1
      simp [firstN, q, hn] at h
  · intro h
    have : (List.range xs.length).find? (fun t => (rowN xs ys xs.length t).isSome) = none := find_none fun t ht => by rw [(row t).mpr (h t ht)]; rfl
    simp [firstN, this]

/-! ### orders below one another: one step, and how many fall -/
def cn (n : Nat) (l : List Nat) : Nat := l.countP fun x => decide (n ≤ x)
@[simp] theorem cn_nil {n : Nat} : cn n [] = 0 := rfl
theorem cn_cons {n x : Nat} {l : List Nat} : cn n (x :: l) = cn n l + (if n ≤ x then 1 else 0) := by
  simp [cn, List.countP_cons]
theorem cn_app {n : Nat} {l m : List Nat} : cn n (l ++ m) = cn n l + cn n m := by simp [cn]
theorem cn_perm {n : Nat} {l m : List Nat} (h : l.Perm m) : cn n l = cn n m := h.countP_eq _
theorem cn_mono {n m : Nat} (h : n ≤ m) (l : List Nat) : cn m l ≤ cn n l := by
  unfold cn
  exact List.countP_mono_left fun x _ hx => by simp only [decide_eq_true_eq] at *; omega
theorem cn_gap {x y n : Nat} {l : List Nat} (h : ∀ q ∈ l, q < x ∨ y ≤ q) (h1 : x ≤ n) (h2 : n ≤ y) : cn x l = cn n l := by
  unfold cn
  exact List.countP_congr fun q hq => by have := h q hq; simp only [decide_eq_true_eq]; omega
def Le (xs ys : List Nat) : Prop := ∀ s n, cn n (xs.take s) ≤ cn n (ys.take s)
theorem swap_perm {x y : Nat} {A B C : List Nat} : (A ++ x :: (B ++ y :: C)).Perm (A ++ y :: (B ++ x :: C)) := by
  refine List.Perm.append_left _ ?_
  refine (List.Perm.cons x List.perm_middle).trans ?_
  refine (List.Perm.swap _ _ _).trans ?_
  exact List.Perm.cons y List.perm_middle.symm
theorem take_in {A : List Nat} {x : Nat} {X : List Nat} {r : Nat} : (A ++ x :: X).take (A.length + 1 + r) = A ++ x :: X.take r := by
  rw [List.take_append, List.take_of_length_le (by omega), show A.length + 1 + r - A.length = r + 1 by omega]
  rfl
theorem take_pre {A X : List Nat} {s : Nat} (h : s ≤ A.length) : (A ++ X).take s = A.take s := by
  rw [List.take_append, show s - A.length = 0 by omega]
  simp
/-- three places of a cut -/
theorem cut3 {A B : List Nat} {C : List Nat} (s : Nat) : s ≤ A.length ∨ (∃ r, r ≤ B.length ∧ s = A.length + 1 + r) ∨ ∃ r, s = A.length + 1 + (B.length + 1 + r) := by
  by_cases h : s ≤ A.length
  · exact .inl h
  · by_cases h2 : s - A.length - 1 ≤ B.length
    · exact .inr (.inl ⟨_, h2, by omega⟩)
    · exact .inr (.inr ⟨s - A.length - 1 - B.length - 1, by omega⟩)
theorem step_le {A B C X : List Nat} {x y b : Nat} (h : Le (A ++ x :: X) (A ++ y :: (B ++ b :: C))) (h1 : x ≤ b) (h2 : b < y) (h3 : ∀ q ∈ B, q < x ∨ y ≤ q) : Le (A ++ x :: X) (A ++ b :: (B ++ y :: C)) := by
  intro s n
  have hs := h s n
  rcases cut3 (A := A) (B := B) (C := C) s with q | ⟨r, hr, rfl⟩ | ⟨r, rfl⟩
  · rw [take_pre q, take_pre q]
    exact Nat.le_refl _
  · have hx := h (A.length + 1 + r) x
    simp only [take_in, cn_app, cn_cons] at *
    rw [List.take_append, show r - B.length = 0 by omega] at *
    simp only [List.take_zero, List.append_nil] at *
    have g := cn_gap (l := B.take r) (n := n) (fun q hq => h3 q (List.mem_of_mem_take hq))
    have m := cn_mono (n := x) (m := n) (l := X.take r)
    by_cases a : n ≤ b
    · have : n ≤ y := by omega
      simp only [a, this, if_true] at *
      exact hs
    · by_cases c : n ≤ y
      · have e1 := g (by omega) c
        have e2 := m (by omega)
        have a2 : ¬ n ≤ x := by omega
        have a3 : x ≤ y := by omega
        simp only [a, c, a2, a3, Nat.le_refl, if_true, if_false] at *
        omega
      · simp only [a, c, if_false] at *
        exact hs
  · have e : cn n ((A ++ b :: (B ++ y :: C)).take (A.length + 1 + (B.length + 1 + r))) = cn n ((A ++ y :: (B ++ b :: C)).take (A.length + 1 + (B.length + 1 + r))) := by
      simp only [take_in]
      exact cn_perm swap_perm
    rw [e]
    exact hs
theorem down_le {A B C : List Nat} {y b : Nat} (h2 : b < y) : Le (A ++ b :: (B ++ y :: C)) (A ++ y :: (B ++ b :: C)) := by
  intro s n
  rcases cut3 (A := A) (B := B) (C := C) s with q | ⟨r, hr, rfl⟩ | ⟨r, rfl⟩
  · rw [take_pre q, take_pre q]
    exact Nat.le_refl _
  · simp only [take_in, cn_app, cn_cons]
    rw [List.take_append, show r - B.length = 0 by omega]
    rw [List.take_append, show r - B.length = 0 by omega]
    simp only [List.take_zero, List.append_nil]
    by_cases a : n ≤ b
    · have : n ≤ y := by omega
      simp only [a, this, if_true]
      omega
    · simp only [a, if_false]
      omega
  · simp only [take_in]
    rw [cn_perm swap_perm]
    exact Nat.le_refl _
theorem Le.refl (xs : List Nat) : Le xs xs := fun _ _ => Nat.le_refl _
theorem Le.trans {xs ys zs : List Nat} (h : Le xs ys) (h' : Le ys zs) : Le xs zs := fun s n => Nat.le_trans (h s n) (h' s n)
/-- what stands first otherwise, is less -/
theorem le_head {A X Y : List Nat} {x y : Nat} (h : Le (A ++ x :: X) (A ++ y :: Y)) : x ≤ y := by
  have := h (A.length + 1 + 0) x
  simp only [take_in, List.take_zero, cn_app, cn_cons, cn_nil, Nat.le_refl, if_true] at this
  by_cases q : x ≤ y
  · exact q
  · simp only [q, if_false] at this
    omega
/-- how many fall -/
def inv : List Nat → Nat
  | [] => 0
  | x :: r => r.countP (fun y => decide (y < x)) + inv r
def crs (A M : List Nat) : Nat := (A.map fun a => M.countP fun y => decide (y < a)).sum
theorem inv_app {A M : List Nat} : inv (A ++ M) = inv A + crs A M + inv M := by
  induction A with
  | nil => simp [inv, crs]
  | cons a A ih =>
    simp only [List.cons_append, inv, ih, crs, List.map_cons, List.sum_cons, List.countP_append] at *
    omega
theorem crs_perm {A M N : List Nat} (h : M.Perm N) : crs A M = crs A N := by
  unfold crs
  congr 1
  exact List.map_congr_left fun a _ => h.countP_eq _
theorem crs_cons {A M : List Nat} {y : Nat} : crs A (y :: M) = crs A M + A.countP fun a => decide (y < a) := by
  induction A with
  | nil => simp [crs]
  | cons a A ih =>
    simp only [crs, List.map_cons, List.sum_cons, List.countP_cons] at *
    rw [ih]
    by_cases h : y < a <;> simp [h] <;> omega
theorem gap_count {B : List Nat} {b y : Nat} (h : b < y) (hb : b ∉ B) (hy : y ∉ B) :
    B.countP (fun q => decide (q < y)) + B.countP (fun q => decide (b < q)) = B.countP (fun q => decide (q < b)) + B.countP (fun q => decide (y < q)) + 2 * B.countP (fun q => decide (b < q) && decide (q < y)) := by
  induction B with
  | nil => simp
  | cons q B ih =>
    have h1 : b ≠ q := fun e => hb (e ▸ List.mem_cons_self ..)
    have h2 : y ≠ q := fun e => hy (e ▸ List.mem_cons_self ..)
    have := ih (fun z => hb (List.mem_cons_of_mem _ z)) (fun z => hy (List.mem_cons_of_mem _ z))
    simp only [List.countP_cons]
    by_cases c1 : q < b
    · have a1 : q < y := by omega
      have a2 : ¬ b < q := by omega
      have a3 : ¬ y < q := by omega
      simp [c1, a1, a2, a3]
      omega
    · have a2 : b < q := by omega
      by_cases c2 : q < y
      · have a3 : ¬ y < q := by omega
        simp [c1, c2, a2, a3]
        omega
      · have a3 : y < q := by omega
        simp [c1, c2, a2, a3]
        omega
theorem inv_swap {A B C : List Nat} {b y : Nat} (h : b < y) (hb : b ∉ B) (hy : y ∉ B) : inv (A ++ y :: (B ++ b :: C)) = inv (A ++ b :: (B ++ y :: C)) + 1 + 2 * B.countP fun q => decide (b < q) && decide (q < y) := by
  have p : (y :: (B ++ b :: C)).Perm (b :: (B ++ y :: C)) := swap_perm (A := [])
  have g := gap_count h hb hy
  have e1 : ¬ y < b := by omega
  rw [inv_app, inv_app, crs_perm p]
  simp only [inv, inv_app, crs_cons, List.countP_append, List.countP_cons, h, e1, decide_true, decide_false, if_true]
  simp
  omega
theorem inv_down {A B C : List Nat} {b y : Nat} (h : b < y) (hb : b ∉ B) (hy : y ∉ B) (g : ∀ q ∈ B, q < b ∨ y < q) : inv (A ++ y :: (B ++ b :: C)) = inv (A ++ b :: (B ++ y :: C)) + 1 := by
  rw [inv_swap h hb hy]
  have : B.countP (fun q => decide (b < q) && decide (q < y)) = 0 := List.countP_eq_zero.mpr fun q hq => by
    have := g q hq
    simp
    omega
  omega
/-- how many fall, by places -/
theorem flN_inv : ∀ xs : List Nat, (flN xs).length = inv xs := by
  have pr : ∀ (xs : List Nat) (i : Nat), (prN xs i).length = (xs.drop (i + 1)).countP fun y => decide (y < xs[i]?.getD 0) := fun xs i => by
    unfold prN
    rw [← List.countP_eq_length_filter, List.countP_map]
    have : xs.drop (i + 1) = (List.range (xs.length - (i + 1))).map fun q => xs[i + 1 + q]?.getD 0 := by
      apply List.ext_getElem
      · simp
      · intro q h1 h2
        simp at h1
        simp [show i + 1 + q < xs.length by omega]
    rw [this, List.countP_map]
    rfl
  intro xs
  unfold flN
  rw [List.length_flatMap]
  simp only [List.length_map, pr]
  induction xs with
  | nil => rfl
  | cons x xs ih =>
    rw [List.length_cons, List.range_succ_eq_map]
    simp only [List.map_cons, List.map_map, List.sum_cons, inv, ← ih]
    rfl
theorem ah_cn {xs : List Nat} {t n : Nat} : ahN xs t n = cn n (xs.take (t + 1)) := by
  unfold ahN cn
  rw [List.countP_eq_length_filter]
theorem le_of_first {xs ys : List Nat} (hl : xs.length = ys.length) (hx : ∀ x ∈ xs, x < xs.length) (h : firstN xs ys = none) : Le xs ys := by
  rw [firstN_none] at h
  intro s n
  by_cases hn : n < xs.length
  · by_cases hs : s < xs.length
    · match s with
      | 0 => simp
      | s + 1 =>
        have := h s (by omega) n hn
        rwa [ah_cn, ah_cn] at this
    · have := h (xs.length - 1) (by omega) n hn
      rw [ah_cn, ah_cn, show xs.length - 1 + 1 = xs.length by omega, List.take_of_length_le (by omega), List.take_of_length_le (by omega)] at this
      rwa [List.take_of_length_le (by omega), List.take_of_length_le (by omega)]
  · have : cn n (xs.take s) = 0 := List.countP_eq_zero.mpr fun x hq => by
      have := hx x (List.mem_of_mem_take hq)
      simp
      omega
    omega
theorem first_of_le {xs ys : List Nat} (h : Le xs ys) : firstN xs ys = none := by
  rw [firstN_none]
  intro t ht n hn
  rw [ah_cn, ah_cn]
  exact h (t + 1) n
theorem split_ne : ∀ {xs ys : List Nat}, xs.length = ys.length → xs ≠ ys → ∃ A x X y Y, xs = A ++ x :: X ∧ ys = A ++ y :: Y ∧ x ≠ y
  | [], [], _, h => absurd rfl h
  | [], _ :: _, h, _ => nomatch h
  | _ :: _, [], h, _ => nomatch h
  | x :: xs, y :: ys, h, hne => by
    by_cases e : x = y
    · subst e
      obtain ⟨A, a, X, b, Y, rfl, rfl, q⟩ := split_ne (xs := xs) (ys := ys) (by simpa using h) (fun e => hne (by rw [e]))
      exact ⟨x :: A, a, X, b, Y, rfl, rfl, q⟩
    · exact ⟨[], x, xs, y, ys, rfl, rfl, e⟩
theorem split_first {p : Nat → Bool} : ∀ {l : List Nat} {x : Nat}, x ∈ l → p x = true → ∃ B b C, l = B ++ b :: C ∧ p b = true ∧ ∀ q ∈ B, p q = false
  | [], _, h, _ => nomatch h
  | y :: l, x, h, hx => by
    cases q : p y with
    | true => exact ⟨[], y, l, rfl, q, fun _ z => nomatch z⟩
    | false =>
      rcases List.mem_cons.mp h with rfl | h
      · rw [hx] at q; cases q
      · obtain ⟨B, b, C, rfl, h1, h2⟩ := split_first h hx
        exact ⟨y :: B, b, C, rfl, h1, fun z hz => by rcases List.mem_cons.mp hz with rfl | hz; exact q; exact h2 z hz⟩
theorem find_atN {p : Nat → Bool} {m i : Nat} (hi : i < m) (hp : p i = true) (h : ∀ j < i, p j = false) : (List.range m).find? p = some i := by
  rw [List.find?_range_eq_some]
  exact ⟨hp, List.mem_range.mpr hi, fun j hj => by simp [h j hj]⟩
theorem exN_split {A B C : List Nat} {y b : Nat} : exN (A ++ y :: (B ++ b :: C)) A.length (A.length + 1 + B.length) = A ++ b :: (B ++ y :: C) := by
  have h1 : (A ++ y :: (B ++ b :: C))[A.length]? = some y := by simp
  have h2 : (A ++ y :: (B ++ b :: C))[A.length + 1 + B.length]? = some b := by
    rw [List.getElem?_append_right (by omega), show A.length + 1 + B.length - A.length = B.length + 1 by omega]
    simp
  have h3 : (A ++ y :: (B ++ b :: C)).drop (A.length + 1) = B ++ b :: C := by
    rw [List.drop_append, List.drop_of_length_le (by omega)]
    simp
  have h4 : (A ++ y :: (B ++ b :: C)).drop (A.length + 1 + B.length + 1) = C := by
    rw [show A.length + 1 + B.length + 1 = A.length + 1 + (B.length + 1) by omega, ← List.drop_drop, h3, List.drop_append, List.drop_of_length_le (by omega)]
    simp
  unfold exN
  rw [h1, h2, h3, h4]
  simp
theorem stp_ok {xs ys : List Nat} (hp : xs.Perm ys) (hn : ys.Nodup) (hL : Le xs ys) (hne : xs ≠ ys) :
    ∃ p, stpN xs ys = some p ∧ p.1 < p.2 ∧ p.2 < ys.length ∧ Le xs (exN ys p.1 p.2) ∧ Le (exN ys p.1 p.2) ys ∧ inv (exN ys p.1 p.2) + 1 = inv ys ∧ (exN ys p.1 p.2).Perm ys := by
  obtain ⟨A, x, X, y, Y, rfl, rfl, hxy⟩ := split_ne hp.length_eq hne
  have hle := le_head hL
  have hnx : (A ++ x :: X).Nodup := hp.nodup_iff.mpr hn
  have hxA : x ∉ A := fun h => by
    have := (List.nodup_append.mp hnx).2.2 x h x (List.mem_cons_self ..)
    exact this rfl
  have hxY : x ∈ Y := by
    have : x ∈ A ++ y :: Y := hp.mem_iff.mp (List.mem_append_right _ (List.mem_cons_self ..))
    rcases List.mem_append.mp this with h | h
    · exact absurd h hxA
    · rcases List.mem_cons.mp h with h | h
      · exact absurd h hxy
      · exact h
  obtain ⟨B, b, C, rfl, hb, hB⟩ := split_first (p := fun q => decide (x ≤ q) && decide (q < y)) hxY (by simp; omega)
  simp only [Bool.and_eq_true, decide_eq_true_eq] at hb
  have hB' : ∀ q ∈ B, q < x ∨ y ≤ q := fun q hq => by
    have := hB q hq
    simp only [Bool.and_eq_false_iff, decide_eq_false_iff_not] at this
    omega
  have hn2 := (List.nodup_append.mp hn).2.1
  rw [List.nodup_cons] at hn2
  obtain ⟨hyY, hn3⟩ := hn2
  have hbB : b ∉ B := fun h => by
    have := (List.nodup_append.mp hn3).2.2 b h b (List.mem_cons_self ..)
    exact this rfl
  have hyB : y ∉ B := fun h => hyY (List.mem_append_left _ h)
  have hlen := hp.length_eq
  simp only [List.length_append, List.length_cons] at hlen
  have ex : exN (A ++ y :: (B ++ b :: C)) A.length (A.length + 1 + B.length) = A ++ b :: (B ++ y :: C) := exN_split
  refine ⟨(A.length, A.length + 1 + B.length), ?_, by show A.length < A.length + 1 + B.length; omega, by show A.length + 1 + B.length < _; simp; omega, ?_, ?_, ?_, ?_⟩
  · have d1 : (dfN (A ++ x :: X) (A ++ y :: (B ++ b :: C))).head? = some A.length := by
      unfold dfN
      rw [List.head?_filter]
      refine find_atN (by simp) ?_ ?_
      · simp [hxy]
      · intro j hj
        simp only [decide_eq_false_iff_not, Decidable.not_not]
        rw [List.getElem?_append_left hj, List.getElem?_append_left hj]
    have d2 : (fiN (A ++ x :: X) (A ++ y :: (B ++ b :: C)) A.length).head? = some (A.length + 1 + B.length) := by
      unfold fiN
      rw [List.head?_filter, List.find?_map]
      have ax : (A ++ x :: X)[A.length]?.getD 0 = x := by simp
      have ay : (A ++ y :: (B ++ b :: C))[A.length]?.getD 0 = y := by simp
      rw [ax, ay]
      have ag : ∀ q, (A ++ y :: (B ++ b :: C))[A.length + 1 + q]?.getD 0 = (B ++ b :: C)[q]?.getD 0 := fun q => by
        rw [List.getElem?_append_right (by omega), show A.length + 1 + q - A.length = q + 1 by omega]
        simp
      rw [find_atN (i := B.length)]
      · rfl
      · simp; omega
      · simp [ag, hb]
      · intro j hj
        have hm : B[j] ∈ B := List.getElem_mem _
        have := hB' _ hm
        simp only [Function.comp_apply, ag]
        rw [List.getElem?_append_left hj, List.getElem?_eq_getElem hj]
        simp
        omega
    unfold stpN
    rw [d1]
    simp [d2]
  · show Le _ (exN _ A.length (A.length + 1 + B.length))
    rw [ex]
    exact step_le hL hb.1 hb.2 hB'
  · show Le (exN _ A.length (A.length + 1 + B.length)) _
    rw [ex]
    exact down_le hb.2
  · show inv (exN _ A.length (A.length + 1 + B.length)) + 1 = _
    rw [ex]
    refine (inv_down hb.2 hbB hyB fun q hq => ?_).symm
    have h1 := hB' q hq
    have h2 : q ≠ y := fun e => hyB (e ▸ hq)
    omega
  · show (exN _ A.length (A.length + 1 + B.length)).Perm _
    rw [ex]
    exact swap_perm
theorem rd_ok : ∀ (k : Nat) (xs ys : List Nat), inv ys ≤ k → xs.Perm ys → ys.Nodup → Le xs ys → ∃ l, rdN k xs ys = some l ∧ l.length ≤ k
  | 0, xs, ys, hk, hp, hn, hL => by
    by_cases e : xs = ys
    · subst e; exact ⟨[], by simp [rdN], by simp⟩
    · obtain ⟨p, _, _, _, _, _, h, _⟩ := stp_ok hp hn hL e
      omega
  | k + 1, xs, ys, hk, hp, hn, hL => by
    by_cases e : xs = ys
    · subst e; exact ⟨[], by simp [rdN], by simp⟩
    · obtain ⟨p, h1, _, _, h4, _, h5, h6⟩ := stp_ok hp hn hL e
      obtain ⟨l, e1, e2⟩ := rd_ok k xs (exN ys p.1 p.2) (by omega) (hp.trans h6.symm) (h6.nodup_iff.mpr hn) h4
      refine ⟨p :: l, ?_, by simp; omega⟩
      have : ¬ ys = xs := fun z => e z.symm
      simp only [rdN, this, if_false, h1, e1]
      rfl
/-- a place behind another one: the list in parts -/
theorem parts {xs : List Nat} {i j : Nat} (h : i < j) (hj : j < xs.length) : ∃ A y B b C, xs = A ++ y :: (B ++ b :: C) ∧ A.length = i ∧ j = A.length + 1 + B.length := by
  refine ⟨xs.take i, xs[i], (xs.drop (i + 1)).take (j - (i + 1)), xs[j], xs.drop (j + 1), ?_, by simp; omega, by simp; omega⟩
  have e1 : xs.drop (i + 1) = (xs.drop (i + 1)).take (j - (i + 1)) ++ (xs.drop (i + 1)).drop (j - (i + 1)) := (List.take_append_drop ..).symm
  have e2 : (xs.drop (i + 1)).drop (j - (i + 1)) = xs[j] :: xs.drop (j + 1) := by
    rw [List.drop_drop, show i + 1 + (j - (i + 1)) = j by omega]
    exact List.drop_eq_getElem_cons hj
  rw [← e2, ← e1]
  rw [← List.drop_eq_getElem_cons (by omega), List.take_append_drop]
theorem ex_perm {xs : List Nat} {i j : Nat} (h : i < j) (hj : j < xs.length) : (exN xs i j).Perm xs := by
  obtain ⟨A, y, B, b, C, rfl, rfl, rfl⟩ := parts h hj
  rw [exN_split]
  exact swap_perm
theorem ex_ex {xs : List Nat} {i j : Nat} (h : i < j) (hj : j < xs.length) : exN (exN xs i j) i j = xs := by
  obtain ⟨A, y, B, b, C, rfl, rfl, rfl⟩ := parts h hj
  rw [exN_split, exN_split]
/-- an exchange with fewer falls lies below -/
theorem ex_down {xs : List Nat} {i j : Nat} (h : i < j) (hj : j < xs.length) (hn : xs.Nodup) (hf : inv (exN xs i j) < inv xs) : Le (exN xs i j) xs := by
  obtain ⟨A, y, B, b, C, rfl, rfl, rfl⟩ := parts h hj
  rw [exN_split] at *
  have hn2 := (List.nodup_append.mp hn).2.1
  rw [List.nodup_cons] at hn2
  obtain ⟨hyY, hn3⟩ := hn2
  have hbB : b ∉ B := fun h => by
    have := (List.nodup_append.mp hn3).2.2 b h b (List.mem_cons_self ..)
    exact this rfl
  have hyB : y ∉ B := fun h => hyY (List.mem_append_left _ h)
  have hyb : y ≠ b := fun e => hyY (List.mem_append_right _ (e ▸ List.mem_cons_self ..))
  by_cases q : b < y
  · exact down_le q
  · have := inv_swap (A := A) (C := C) (show y < b by omega) hyB hbB
    omega
theorem mem_swN {xs z : List Nat} {m : Int} {n : Nat} : z ∈ swN xs m n ↔ ∃ i j, i < n ∧ i < j ∧ j < xs.length ∧ z = exN xs i j ∧ ((inv z : Nat) : Int) = m := by
  simp only [swN, swP, List.mem_flatMap, List.mem_filter, List.mem_map, List.mem_range, decide_eq_true_eq, flN_inv]
  constructor
  · rintro ⟨i, hi, ⟨r, hr, rfl⟩, h⟩
    exact ⟨i, i + 1 + r, hi, by omega, by omega, rfl, h⟩
  · rintro ⟨i, j, hi, hij, hj, rfl, h⟩
    exact ⟨i, hi, ⟨j - (i + 1), by omega, by rw [show i + 1 + (j - (i + 1)) = j by omega]⟩, h⟩
/-- covers are covered -/
theorem cover_back {xs z : List Nat} {m : Int} (h : z ∈ swN xs m xs.length) : xs ∈ swN z (((inv xs : Nat) : Int)) z.length := by
  obtain ⟨i, j, hi, hij, hj, rfl, hm⟩ := mem_swN.mp h
  have hl := (ex_perm hij hj).length_eq
  exact mem_swN.mpr ⟨i, j, by omega, hij, by omega, (ex_ex hij hj).symm, rfl⟩
/-- something falls: two neighbours fall -/
theorem adj_fall : ∀ {xs : List Nat}, 0 < inv xs → xs.Nodup → ∃ A y b C, xs = A ++ y :: b :: C ∧ b < y
  | [], h, _ => nomatch h
  | [x], h, _ => by simp [inv] at h
  | x :: y :: r, h, hn => by
    by_cases q : y < x
    · exact ⟨[], x, y, r, rfl, q⟩
    · by_cases c : 0 < inv (y :: r)
      · obtain ⟨A, a, b, C, e, h2⟩ := adj_fall c (List.nodup_cons.mp hn).2
        exact ⟨x :: A, a, b, C, by rw [e]; rfl, h2⟩
      · have e0 : inv (y :: r) = 0 := by omega
        simp only [inv] at e0 h
        have h1 : r.countP (fun z => decide (z < y)) = 0 := by omega
        have h2 : (y :: r).countP (fun z => decide (z < x)) = 0 := List.countP_eq_zero.mpr fun z hz => by
          rcases List.mem_cons.mp hz with rfl | hz
          · simpa using q
          · have := List.countP_eq_zero.mp h1 z hz
            simp at this ⊢
            omega
        omega
theorem cover_some {xs : List Nat} (hn : xs.Nodup) : swN xs (((inv xs : Nat) : Int) - 1) xs.length = [] ↔ inv xs = 0 := by
  constructor
  · intro h
    by_cases c : 0 < inv xs
    · obtain ⟨A, y, b, C, rfl, hb⟩ := adj_fall c hn
      have e : exN (A ++ y :: ([] ++ b :: C)) A.length (A.length + 1 + ([] : List Nat).length) = A ++ b :: ([] ++ y :: C) := exN_split
      have h1 := inv_down (A := A) (B := []) (C := C) hb (by simp) (by simp) (by simp)
      have hm : A ++ b :: ([] ++ y :: C) ∈ swN (A ++ y :: ([] ++ b :: C)) (((inv (A ++ y :: ([] ++ b :: C)) : Nat) : Int) - 1) (A ++ y :: ([] ++ b :: C)).length :=
        mem_swN.mpr ⟨A.length, A.length + 1 + ([] : List Nat).length, by simp, by simp, by simp, e.symm, by omega⟩
      rw [show A ++ y :: ([] ++ b :: C) = A ++ y :: b :: C from rfl, h] at hm
      cases hm
    · omega
  · intro h
    refine List.eq_nil_iff_forall_not_mem.mpr fun z hz => ?_
    obtain ⟨i, j, _, _, _, _, hm⟩ := mem_swN.mp hz
    omega

/-! ### codes of orders -/
def codeN : List Nat → List Nat
  | [] => []
  | x :: r => (r.countP fun y => decide (y < x)) :: codeN r
def decN : List Nat → List Nat → List Nat
  | _, [] => []
  | left, c :: cs => left[c]?.getD 0 :: decN (left.eraseIdx c) cs
def okC : Nat → List Nat → Prop
  | n, [] => n = 0
  | n, c :: cs => c < n ∧ okC (n - 1) cs
theorem codeN_len : ∀ xs : List Nat, (codeN xs).length = xs.length
  | [] => rfl
  | x :: r => by simp [codeN, codeN_len r]
theorem codeN_sum : ∀ xs : List Nat, (codeN xs).sum = inv xs
  | [] => rfl
  | x :: r => by simp [codeN, inv, codeN_sum r]
theorem codeN_ok : ∀ xs : List Nat, okC xs.length (codeN xs)
  | [] => rfl
  | x :: r => by
    refine ⟨?_, codeN_ok r⟩
    have : r.countP (fun y => decide (y < x)) ≤ r.length := List.countP_le_length
    simp
    omega
theorem okC_len : ∀ {cs : List Nat} {n : Nat}, okC n cs → cs.length = n
  | [], n, h => h.symm
  | c :: cs, n, h => by
    have := okC_len h.2
    have := h.1
    simp
    omega
/-- where a number stands in an ascending row -/
theorem asc_at : ∀ {l : List Nat} {x : Nat}, l.Pairwise (· < ·) → x ∈ l → l[l.countP fun y => decide (y < x)]? = some x
  | y :: l, x, h, hx => by
    rw [List.pairwise_cons] at h
    rcases List.mem_cons.mp hx with rfl | hx
    · have : (x :: l).countP (fun y => decide (y < x)) = 0 := List.countP_eq_zero.mpr fun z hz => by
        rcases List.mem_cons.mp hz with rfl | hz
        · simp
        · have := h.1 z hz
          simp
          omega
      rw [this]
      rfl
    · have hy := h.1 x hx
      rw [List.countP_cons_of_pos (by simpa using hy)]
      simpa using asc_at h.2 hx
theorem asc_cnt : ∀ {l : List Nat} {c x : Nat}, l.Pairwise (· < ·) → l[c]? = some x → (l.countP fun y => decide (y < x)) = c
  | [], c, x, _, h => by simp at h
  | y :: l, 0, x, h, hx => by
    simp at hx
    subst hx
    rw [List.pairwise_cons] at h
    refine List.countP_eq_zero.mpr fun z hz => ?_
    rcases List.mem_cons.mp hz with rfl | hz
    · simp
    · have := h.1 z hz
      simp
      omega
  | y :: l, c + 1, x, h, hx => by
    rw [List.pairwise_cons] at h
    have hx' : l[c]? = some x := by simpa using hx
    have hy := h.1 x (List.mem_of_getElem? hx')
    rw [List.countP_cons_of_pos (by simpa using hy), asc_cnt h.2 hx']
theorem dec_code : ∀ (xs left : List Nat), left.Pairwise (· < ·) → left.Perm xs → decN left (codeN xs) = xs
  | [], left, _, _ => by simp [codeN, decN]
  | x :: r, left, h, p => by
    have e : (r.countP fun y => decide (y < x)) = left.countP fun y => decide (y < x) := by
      rw [p.countP_eq, List.countP_cons_of_neg (by simp)]
    have hx := asc_at h (p.mem_iff.mpr (List.mem_cons_self ..))
    rw [← e] at hx
    have q := (erase_perm hx).trans p
    have := dec_code r (left.eraseIdx (r.countP fun y => decide (y < x))) (h.sublist (List.eraseIdx_sublist ..)) ((List.perm_cons x).mp q)
    simp only [codeN, decN, hx, this]
    rfl
theorem dec_perm : ∀ (cs left : List Nat), okC left.length cs → (decN left cs).Perm left
  | [], left, h => by
    have := List.length_eq_zero_iff.mp h
    subst this
    exact .refl _
  | c :: cs, left, h => by
    have hc1 : c < left.length := h.1
    have hx : left[c]? = some left[c] := List.getElem?_eq_getElem hc1
    have hl : (left.eraseIdx c).length = left.length - 1 := List.length_eraseIdx_of_lt h.1
    have := dec_perm cs (left.eraseIdx c) (by rw [hl]; exact h.2)
    simp only [decN, hx]
    exact (this.cons _).trans (erase_perm hx)
theorem code_dec : ∀ (cs left : List Nat), left.Pairwise (· < ·) → okC left.length cs → codeN (decN left cs) = cs
  | [], left, _, _ => by simp [codeN, decN]
  | c :: cs, left, h, hc => by
    have hc1 : c < left.length := hc.1
    have hx : left[c]? = some left[c] := List.getElem?_eq_getElem hc1
    have hl : (left.eraseIdx c).length = left.length - 1 := List.length_eraseIdx_of_lt hc.1
    have hok : okC (left.eraseIdx c).length cs := by rw [hl]; exact hc.2
    have ih := code_dec cs (left.eraseIdx c) (h.sublist (List.eraseIdx_sublist ..)) hok
    have p := dec_perm cs (left.eraseIdx c) hok
    simp only [decN, hx, codeN, ih]
    congr 1
    show (decN (left.eraseIdx c) cs).countP (fun y => decide (y < left[c])) = c
    rw [p.countP_eq]
    have e := asc_cnt h hx
    rw [← (erase_perm hx).countP_eq, List.countP_cons_of_neg (by simp)] at e
    exact e
/-! ### turned -/
def posN (xs : List Nat) (v : Nat) : Nat := (xs.findIdx? fun y => decide (y = v)).getD 0
def turnN (xs : List Nat) : List Nat := (List.range xs.length).map (posN xs)
theorem turnN_len (xs : List Nat) : (turnN xs).length = xs.length := by simp [turnN]
theorem pos_some {xs : List Nat} {v : Nat} (h : v ∈ xs) : ∃ i, (xs.findIdx? fun y => decide (y = v)) = some i ∧ xs[i]? = some v := by
  cases e : xs.findIdx? fun y => decide (y = v) with
  | none =>
    rw [List.findIdx?_eq_none_iff] at e
    have := e v h
    simp at this
  | some i =>
    rw [List.findIdx?_eq_some_iff_getElem] at e
    obtain ⟨hi, h1, _⟩ := e
    simp at h1
    exact ⟨i, rfl, by rw [List.getElem?_eq_getElem hi, h1]⟩
theorem pos_at {xs : List Nat} (hn : xs.Nodup) {i v : Nat} (h : xs[i]? = some v) : posN xs v = i := by
  obtain ⟨j, e1, e2⟩ := pos_some (List.mem_of_getElem? h)
  unfold posN
  rw [e1]
  obtain ⟨hi, h1⟩ := List.getElem?_eq_some_iff.mp h
  obtain ⟨hj, h2⟩ := List.getElem?_eq_some_iff.mp e2
  exact (List.getElem_inj hn).mp (h2.trans h1.symm)
structure Prm (n : Nat) (xs : List Nat) : Prop where
  p : xs.Perm (List.range n)
theorem Prm.len {n : Nat} {xs : List Nat} (h : Prm n xs) : xs.length = n := by simpa using h.p.length_eq
theorem Prm.nd {n : Nat} {xs : List Nat} (h : Prm n xs) : xs.Nodup := h.p.nodup_iff.mpr List.nodup_range
theorem Prm.mem {n : Nat} {xs : List Nat} (h : Prm n xs) {v : Nat} : v ∈ xs ↔ v < n := by rw [h.p.mem_iff, List.mem_range]
theorem turn_at {n : Nat} {xs : List Nat} (h : Prm n xs) {v : Nat} (hv : v < n) : (turnN xs)[v]? = some (posN xs v) ∧ xs[posN xs v]? = some v ∧ posN xs v < n := by
  obtain ⟨i, e1, e2⟩ := pos_some (h.mem.mpr hv)
  have hp : posN xs v = i := by unfold posN; rw [e1]; rfl
  have hi := (List.getElem?_eq_some_iff.mp e2).1
  rw [h.len] at hi
  refine ⟨?_, by rw [hp]; exact e2, by rw [hp]; exact hi⟩
  unfold turnN
  rw [List.getElem?_map, List.getElem?_range (by rw [h.len]; exact hv)]
  rfl
theorem nodup_sub : ∀ {l m : List (Nat × Nat)}, l.Nodup → (∀ x ∈ l, x ∈ m) → l.length ≤ m.length
  | [], _, _, _ => Nat.zero_le _
  | x :: l, m, hn, h => by
    rw [List.nodup_cons] at hn
    obtain ⟨a, b, rfl⟩ := List.append_of_mem (h x (List.mem_cons_self ..))
    have := nodup_sub (l := l) (m := a ++ b) hn.2 fun y hy => by
      have h1 := h y (List.mem_cons_of_mem _ hy)
      rw [List.mem_append, List.mem_cons] at h1
      rw [List.mem_append]
      rcases h1 with h1 | rfl | h1
      · exact .inl h1
      · exact absurd hy hn.1
      · exact .inr h1
    simp at this ⊢
    omega
theorem turn_nd {n : Nat} {xs : List Nat} (h : Prm n xs) : (turnN xs).Nodup := by
  unfold turnN
  refine List.Pairwise.map _ (fun a b q => q) ?_
  rw [h.len]
  refine List.Pairwise.imp_of_mem (R := (· ≠ ·)) (fun {a b} ha hb hab e => hab ?_) List.nodup_range
  have h1 := (turn_at h (List.mem_range.mp ha)).2.1
  have h2 := (turn_at h (List.mem_range.mp hb)).2.1
  rw [e, h2] at h1
  exact (Option.some.inj h1).symm
theorem Prm.turn {n : Nat} {xs : List Nat} (h : Prm n xs) : Prm n (turnN xs) := ⟨by
  rw [List.perm_ext_iff_of_nodup (turn_nd h) List.nodup_range]
  intro v
  rw [List.mem_range]
  constructor
  · intro hv
    obtain ⟨w, hw, rfl⟩ := List.mem_map.mp hv
    rw [h.len] at hw
    exact (turn_at h (List.mem_range.mp hw)).2.2
  · intro hv
    have hvl : v < xs.length := by rw [h.len]; exact hv
    have hv' : xs[v]? = some xs[v] := List.getElem?_eq_getElem hvl
    have := pos_at h.nd hv'
    refine List.mem_map.mpr ⟨xs[v], List.mem_range.mpr ?_, this⟩
    rw [h.len]
    exact h.mem.mp (List.getElem_mem ..)⟩
theorem turn_turn2 {n : Nat} {xs : List Nat} (h : Prm n xs) : turnN (turnN xs) = xs := by
  apply List.ext_getElem?
  intro v
  by_cases hv : v < n
  · obtain ⟨a1, a2, a3⟩ := turn_at h.turn hv
    rw [a1]
    obtain ⟨b1, b2, b3⟩ := turn_at h a3
    rw [b1] at a2
    have : posN xs (posN (turnN xs) v) = v := Option.some.inj a2
    rw [← b2, this]
  · rw [List.getElem?_eq_none (by rw [turnN_len, turnN_len, h.len]; omega), List.getElem?_eq_none (by rw [h.len]; omega)]
theorem mem_flN {xs : List Nat} {i j : Nat} : (i, j) ∈ flN xs ↔ i < j ∧ j < xs.length ∧ xs[j]?.getD 0 < xs[i]?.getD 0 := by
  unfold flN prN
  simp only [List.mem_flatMap, List.mem_range, List.mem_map, List.mem_filter, Prod.mk.injEq, decide_eq_true_eq]
  constructor
  · rintro ⟨a, ha, b, ⟨⟨q, hq, rfl⟩, hb⟩, rfl, rfl⟩
    exact ⟨by omega, by omega, hb⟩
  · rintro ⟨h1, h2, h3⟩
    exact ⟨i, by omega, j, ⟨⟨j - (i + 1), by omega, by omega⟩, h3⟩, rfl, rfl⟩
theorem flN_nd (xs : List Nat) : (flN xs).Nodup := by
  unfold flN
  refine List.pairwise_flatMap.mpr ⟨fun i hi => ?_, ?_⟩
  · refine List.Pairwise.map _ (fun a b q e => q (by injection e)) (R := (· ≠ ·)) ?_
    unfold prN
    refine List.Pairwise.filter _ ?_
    exact List.Pairwise.map _ (fun a b q e => q (by omega)) (List.nodup_range (n := xs.length - (i + 1)))
  · refine List.Pairwise.imp (fun {a b} hab x hx y hy e => ?_) List.nodup_range
    obtain ⟨u, _, rfl⟩ := List.mem_map.mp hx
    obtain ⟨w, _, rfl⟩ := List.mem_map.mp hy
    injection e with e1 _
    exact hab e1
theorem turn_le {n : Nat} {xs : List Nat} (h : Prm n xs) : (flN xs).length ≤ (flN (turnN xs)).length := by
  have := nodup_sub (l := (flN xs).map fun p => (xs[p.2]?.getD 0, xs[p.1]?.getD 0)) (m := flN (turnN xs)) ?_ ?_
  · simpa using this
  · refine List.Pairwise.map _ (R := fun (p q : Nat × Nat) => p ≠ q ∧ p ∈ flN xs ∧ q ∈ flN xs) (fun p q ⟨hpq, hp, hq⟩ e => hpq ?_) ?_
    · obtain ⟨i, j⟩ := p
      obtain ⟨u, w⟩ := q
      obtain ⟨a1, a2, _⟩ := mem_flN.mp hp
      obtain ⟨b1, b2, _⟩ := mem_flN.mp hq
      injection e with e1 e2
      simp only at e1 e2
      rw [List.getElem?_eq_getElem a2, List.getElem?_eq_getElem b2] at e1
      rw [List.getElem?_eq_getElem (show i < xs.length by omega), List.getElem?_eq_getElem (show u < xs.length by omega)] at e2
      have f1 := (List.getElem_inj h.nd).mp e1
      have f2 := (List.getElem_inj h.nd).mp e2
      rw [f1, f2]
    · exact List.Pairwise.imp_of_mem (fun {a b} ha hb hab => ⟨hab, ha, hb⟩) (flN_nd xs)
  · intro x hx
    obtain ⟨⟨i, j⟩, hp, rfl⟩ := List.mem_map.mp hx
    obtain ⟨a1, a2, a3⟩ := mem_flN.mp hp
    obtain ⟨u, hj⟩ : ∃ u, xs[j]? = some u := ⟨_, List.getElem?_eq_getElem a2⟩
    obtain ⟨w, hi⟩ : ∃ w, xs[i]? = some w := ⟨_, List.getElem?_eq_getElem (by omega)⟩
    simp only [hi, hj, Option.getD_some] at a3 ⊢
    have v1 := h.mem.mp (List.mem_of_getElem? hj)
    have v2 := h.mem.mp (List.mem_of_getElem? hi)
    have t1 := (turn_at h v1).1
    have t2 := (turn_at h v2).1
    rw [pos_at h.nd hj] at t1
    rw [pos_at h.nd hi] at t2
    refine mem_flN.mpr ⟨a3, by rw [turnN_len, h.len]; exact v2, ?_⟩
    rw [t1, t2]
    exact a1
theorem turn_inv {n : Nat} {xs : List Nat} (h : Prm n xs) : (flN (turnN xs)).length = (flN xs).length := by
  have h1 := turn_le h
  have h2 := turn_le h.turn
  rw [turn_turn2 h] at h2
  omega

theorem rangeL_dN (m : Nat) : rangeL 0 m = (cI (List.range m)).map PyData.int := rangeL_cI m
theorem perm_ord {m : Nat} {out : List D} (hp : out.Perm (rangeL 0 m)) (h1 : 1 ≤ m) (h2 : m ≤ 10) : ∃ xs : List Nat, okO xs ∧ xs.length = m ∧ out = (cI xs).map .int := by
  have key : ∀ l : List D, (∀ d ∈ l, ∃ z : Nat, d = .int (z : Int)) → ∃ ws : List Nat, l = (cI ws).map .int := fun l => by
    induction l with
    | nil => exact fun _ => ⟨[], rfl⟩
    | cons d l ih =>
      intro h
      obtain ⟨z, rfl⟩ := h d (List.mem_cons_self ..)
      obtain ⟨ws, rfl⟩ := ih fun d hd => h d (List.mem_cons_of_mem _ hd)
      exact ⟨z :: ws, rfl⟩
  obtain ⟨ws, rfl⟩ := key out fun d hd => by
    have := hp.mem_iff.mp hd
    rw [rangeL_dN] at this
    obtain ⟨i, hi, rfl⟩ := List.mem_map.mp this
    obtain ⟨z, _, rfl⟩ := List.mem_map.mp hi
    exact ⟨z, rfl⟩
  have hl := hp.length_eq
  rw [rangeL_len, List.length_map, cI_len] at hl
  refine ⟨ws, ⟨?_, by omega, by omega⟩, hl, rfl⟩
  rw [rangeL_dN] at hp
  have h3 : (((cI ws).map PyData.int).map fun d => match d with | .int i => i.toNat | _ => 0).Perm (((cI (List.range m)).map PyData.int).map fun d => match d with | .int i => i.toNat | _ => 0) := hp.map _
  simpa [cI, Function.comp_def, hl] using h3
theorem f_order {P : Nat → Option FD} {W k : Nat} {st : Sto} (h : H_u_law_order P) {n B m : Nat} {Q : RV × Sto → Prop} (h1 : 1 ≤ m) (h2 : m ≤ 10) (hp : PotAt n B st) (hB : B + m ≤ 10 ^ 14)
    (q : ∀ xs st', okO xs → xs.length = m → PotAt n (B + m) st' → st'.length = st.length → Q (.v (dN xs), st')) : wp (evF P W (k + 3) 195 [dCell n, .int (m : Int)] st) Q := by
  apply w_fn h.p rfl
  have hr := rangeOf_nat (n := m) (by omega)
  simp [b_u_law_order, hr]
  refine f_some h.u_law_some (by rw [rangeL_len]; omega) (by rw [rangeL_len]; omega) hp hB fun out left st' hpm hol hp' hl' => ?_
  have hl0 : left = [] := by
    have := hpm.length_eq
    rw [List.length_append, rangeL_len] at this
    exact List.length_eq_zero_iff.mp (by omega)
  subst hl0
  rw [List.append_nil] at hpm
  obtain ⟨xs, ok, hxl, rfl⟩ := perm_ord hpm h1 h2
  simp
  exact ⟨hl', q xs st' ok hxl hp' hl'⟩

theorem okO.nodup {xs : List Nat} (h : okO xs) : xs.Nodup := h.perm.nodup_iff.mpr List.nodup_range
theorem mem_ordN {m : Nat} : ∀ (t : Nat) {row : List Nat}, row.length = t → row.Nodup → (∀ x ∈ row, x < m) → row ∈ ordN m t
  | 0, row, h, _, _ => by
    have := List.length_eq_zero_iff.mp h
    subst this
    simp [ordN]
  | t + 1, row, h, hn, hb => by
    rcases List.eq_nil_or_concat row with rfl | ⟨L, b, rfl⟩
    · simp at h
    · rw [List.concat_eq_append] at *
      have := mem_ordN t (row := L) (by simpa using h) (List.nodup_append.mp hn).1 (fun x hx => hb x (List.mem_append_left _ hx))
      simp only [ordN, List.mem_flatMap, List.mem_map, List.mem_filter]
      refine ⟨L, this, b, ⟨List.mem_range.mpr (hb b (by simp)), ?_⟩, rfl⟩
      have : b ∉ L := fun z => (List.nodup_append.mp hn).2.2 b z b (by simp) rfl
      simpa using this
theorem okO.mem {xs : List Nat} (h : okO xs) : xs ∈ ordN xs.length xs.length := mem_ordN _ rfl h.nodup fun x hx => h.lt hx
theorem okO.of_perm {xs ys : List Nat} (h : okO xs) (p : ys.Perm xs) : okO ys := by
  have e := p.length_eq
  exact ⟨by rw [e]; exact p.trans h.perm, by rw [e]; exact h.lo, by rw [e]; exact h.hi⟩
theorem ord_perm : ∀ m < 6, ∀ xs ∈ ordN m m, xs.isPerm (List.range m) = true := by decide +kernel
theorem okO.of_mem {m : Nat} (h1 : 1 ≤ m) (h2 : m < 6) {xs : List Nat} (h : xs ∈ ordN m m) : okO xs := by
  have e := ordN_row h
  exact ⟨by rw [e]; exact List.isPerm_iff.mp (ord_perm m h2 xs h), by omega, by omega⟩

/-! ### catchers -/
theorem evF_at {P : Nat → Option FD} {W k f : Nat} {ds : List D} {st : Sto} {d : FD} (hd : P f = some d) : evF P W (k + 1) f ds st = if ds.length = d.par then finL d.lam ds st (match evSs (evF P W k) W d.body (initE d.slots ds) st with
    | some (.nx _ st1) => if st1.length = st.length then some (.v .none, st1) else none
    | some (.rt r st1) => if st1.length = st.length then some (r, st1) else none
    | _ => none) else none := by
  rw [evF]
  simp only [hd]
  all_goals (cases evSs (evF P W k) W d.body (initE d.slots ds) st with
    | none => rfl
    | some fl => cases fl <;> rfl)
theorem evF_cret {P : Nat → Option FD} {W k g n : Nat} {b : Bool} {st : Sto} (hd : P g = some ⟨n, 1, .cons (.cret 0 b) .nil, .nil⟩) (o : Oc) : evF P W (k + 1) g [o.d] st = some (.v (if b then o.ct else .tuple [o.ct, o.bk]), st) := by
  have e0 : (initE n [o.d])[0]? = some (some (.v o.d)) := rfl
  have e1 : ocOf o.d = some o := by cases o <;> rfl
  rw [evF_at hd]
  generalize evF P W k = F
  simp only [List.length_cons, List.length_nil, finL, evSs, evS, e0, e1, if_true]
/-- a catcher called with a lambda that the frame made -/
theorem cc_ev {F : FT} {g n f : Nat} {es : CEs} {r : LLs} {ρ : Rho} {st st1 st2 : Sto} {ds : List D} {o : D} {z : Option (RV × Sto)} (h1 : evEs F es (hideC ρ) [] = some (ds, st1)) (h2 : F (f + 5 * B0) ds [] = some (.v o, st2)) (h3 : F g [o] st = z) : evE F (.cc g (.lam n) .nil (.cons n f es r)) ρ st = z := by
  have hc : cloOf (cloD n) = some n := by simp [cloOf, cloD]
  simp only [evE, evEs, RV.d, hc, evL, if_true, h1, h2]
  exact h3
@[simp] theorem wE_excIs {F : FT} {ρ : Rho} {st : Sto} {Q : RV × Sto → Prop} {x : Str} {a : CE} : wp (evE F (.excIs x a) ρ st) Q ↔ wp (evE F a ρ st) fun p => wp (excIs1 x p.1.d) fun b => Q (.v (.bool b), p.2) := by
  simp only [evE]
  cases evE F a ρ st with
  | none => simp
  | some p =>
    obtain ⟨y, st1⟩ := p
    simp only [wp_some]
    cases excIs1 x y.d <;> simp
@[simp] theorem wE_excVal {F : FT} {ρ : Rho} {st : Sto} {Q : RV × Sto → Prop} {a : CE} : wp (evE F (.excVal a) ρ st) Q ↔ wp (evE F a ρ st) fun p => wp (excVal1 p.1.d) fun d => Q (.v d, p.2) := by
  simp only [evE]
  cases evE F a ρ st with
  | none => simp
  | some p =>
    obtain ⟨y, st1⟩ := p
    simp only [wp_some]
    cases excVal1 y.d <;> simp
@[simp] theorem excIs_e {x c : Str} {d : D} : excIs1 x (excD c d) = some (c == x) := rfl
@[simp] theorem excIs_n {x : Str} : excIs1 x .none = some false := rfl
@[simp] theorem excVal_e {c : Str} {d : D} : excVal1 (excD c d) = some d := rfl

theorem bnt_intG {P : Nat → Option FD} {W k c : Nat} (h : H_u_law_bent P) {x : Int} (hx : 0 ≤ x ∧ x ≤ 1000) (hc : 2 ≤ c) {A : D → Prop} (ha : ∀ d ∈ bentI x, A d) : Bnt P W (k + 4) c (.int x) A := fun n B st Q hp hB q => by
  apply w_fn h.p rfl
  have e1 := f_law_is_int (W := W) (k := k + 2) (st := st) h.u_law_is_int (d := .int x) (lo := -1000000000000000000000000000000) (hi := 1000000000000000000000000000000) rfl
  have b1 : btw (-1000000000000000000000000000000) 1000000000000000000000000000000 (.int x) = true := by simp; omega
  rw [b1] at e1
  have hs : blt .str [.int x] = some (.v (.str (toString x))) := by
    have : x.natAbs < 2 ^ 1900 := Nat.lt_of_le_of_lt (show x.natAbs ≤ 1000 by omega) (by decide +kernel)
    simp [blt, this]
  simp [b_u_law_bent, -seqQ_nx]
  rw [seqQ_nx]
  simp [-seqQ_nx]
  rw [seqQ_nx]
  simp [e1, hs, c_eq, cast_eqv]
  refine f_oddM h.u_law_odd hp (by omega) fun d st' hd hp' hl' => ?_
  simp [maxLen]
  refine f_of h.u_law_of (by simp) (by simp [maxLen]) hp' (by omega) fun e st2 he hp2 hl2 => ?_
  refine ⟨hl2.trans hl', q e st2 (ha e ?_) (hp2.mono (by omega)) (hl2.trans hl')⟩
  simp only [List.mem_cons, List.not_mem_nil, or_false] at he
  unfold bentI
  rcases he with rfl | rfl | rfl | rfl | rfl | rfl
  · simp
  · simp
  · simp
  · simp
  · simp
  · exact List.mem_append_right _ hd
/-- a word, or a word with a number: bent, no cell within -/
theorem bnt_told {P : Nat → Option FD} {W k : Nat} (h : H_u_law_bent P) {ds : List D} (hw : (∃ x, ds = [.str x]) ∨ ∃ (x : Str) (i : Int), ds = [.str x, .int i] ∧ 0 ≤ i ∧ i ≤ 1000) : Bnt P W (k + 5) 5 (.tuple ds) (fun d => okV d = true) := by
  have hne : ds ≠ [] := by rcases hw with ⟨x, rfl⟩ | ⟨x, i, rfl, _⟩ <;> simp
  have hl : ds.length ≤ 2 := by rcases hw with ⟨x, rfl⟩ | ⟨x, i, rfl, _⟩ <;> simp
  have hE : ∀ d ∈ ds, nd d = true ∧ nd2 d = true ∧ shal 1 d = true := by
    intro d hd
    rcases hw with ⟨x, rfl⟩ | ⟨x, i, rfl, _⟩
    · rw [List.mem_singleton] at hd; subst hd; exact ⟨rfl, rfl, sh_str⟩
    · simp only [List.mem_cons, List.not_mem_nil, or_false] at hd
      rcases hd with rfl | rfl
      · exact ⟨rfl, rfl, sh_str⟩
      · exact ⟨rfl, rfl, sh_int⟩
  have hall : ∀ es : List D, es.length ≤ 100 → (∀ e ∈ es, nd2 e = true) → okV (.tuple es) = true := fun es h1 h2 => by
    simp only [okV_t, Bool.and_eq_true, List.all_eq_true, decide_eq_true_eq]
    exact ⟨h2, by simp only [maxLen]; omega⟩
  have o2 : ∀ d ∈ oddL, nd2 d = true := by
    have : oddL.all nd2 = true := by decide +kernel
    exact fun d hd => List.all_eq_true.mp this d hd
  have oV : ∀ d ∈ oddL, okV d = true := by
    have : oddL.all okV = true := by decide +kernel
    exact fun d hd => List.all_eq_true.mp this d hd
  refine bnt_tupM (k := k) (c := 2) (A := fun d => nd2 d = true) h hne (by omega) (fl_sh (n := 2) (sh_tup fun d hd => (hE d hd).2.2) (by omega)) (fun d hd => ?_) (fun es h1 h2 => rfl) (fun es h1 h2 => hall es (by omega) fun e he => ?_) (hall _ (by simp) fun e he => ?_) oV (fun j e hj he => hall _ ?_ fun d hd => ?_)
  · rcases hw with ⟨x, rfl⟩ | ⟨x, i, rfl, hi⟩
    · rw [List.mem_singleton] at hd; subst hd
      exact bnt_strM h (by omega) o2
    · simp only [List.mem_cons, List.not_mem_nil, or_false] at hd
      rcases hd with rfl | rfl
      · exact bnt_strM h (by omega) o2
      · refine bnt_intG h hi (by omega) fun d hd => ?_
        unfold bentI at hd
        rcases List.mem_append.mp hd with hd | hd
        · simp only [List.mem_cons, List.not_mem_nil, or_false] at hd
          rcases hd with rfl | rfl | rfl | rfl | rfl <;> rfl
        · exact o2 d hd
  · rcases h2 e he with h3 | rfl
    · exact (hE e h3).2.1
    · rfl
  · rw [List.mem_singleton] at he
    subst he
    simp only [nd2_t, Bool.and_eq_true, List.all_eq_true, decide_eq_true_eq]
    exact ⟨fun d hd => (hE d hd).1, by simp only [maxLen]; omega⟩
  · simp only [List.length_append, List.length_take, List.length_drop, List.length_singleton]; omega
  · simp only [List.mem_append, List.mem_singleton] at hd
    rcases hd with (hd | hd) | hd
    · exact (hE d (List.mem_of_mem_take hd)).2.1
    · subst hd; exact he
    · exact (hE d (List.mem_of_mem_drop hd)).2.1

/-! ### what raises -/
/-- a call that raises, whatever the store -/
structure Rz (P : Nat → Option FD) (W k g : Nat) (ds : List D) (c : Str) (x : D) : Prop where
  no : ∀ st : Sto, evF P W k g ds st = none
  ex : ∀ st : Sto, evF P W k (g + B0) ds st = some (.v (.tuple [.str c, x]), st)
theorem Rz.clo {P : Nat → Option FD} {W k g : Nat} {ds : List D} {c : Str} {x : D} (r : Rz P W k g ds c x) (hb : ∀ f, B0 ≤ f → P f = none) (hg : g < B0) {st : Sto} : evF P W (k + 4) (g + 5 * B0) ds st = some (.v (oexcD c x), []) := evF_exc hb hg (r.no []) (r.ex [])
theorem Rz.of {P : Nat → Option FD} {W k g : Nat} {ds : List D} {c : Str} {x : D} {d : FD} (hb : ∀ f, B0 ≤ f → P f = none) (hg : g < B0) (hd : P g = some d) (hL : d.lam = .nil) (hl : ds.length = d.par)
    (h : ∀ st : Sto, evSs (evF P W k) W d.body (initE d.slots ds) st = none ∧ xSs (evF P W k) W d.body (initE d.slots ds) st = some (c, x, st)) : Rz P W (k + 1) g ds c x := by
  refine ⟨fun st => ?_, fun st => evF_rs hb hg hd hL hl (h st).2⟩
  rw [evF_at hd, hL, (h st).1]
  simp only [hl, if_true, finL]
/-- the first statement is such a call -/
theorem Rz.first {P : Nat → Option FD} {W k f : Nat} {es : CEs} {rest : CSs} {ρ : Rho} {st : Sto} {ds : List D} {c : Str} {x : D} (r : Rz P W k f ds c x) (h1 : evEs (evF P W k) es ρ st = some (ds, st)) :
    evSs (evF P W k) W (.cons (.expr (.call f es)) rest) ρ st = none ∧ xSs (evF P W k) W (.cons (.expr (.call f es)) rest) ρ st = some (c, x, st) := by
  have h2 := r.no st
  have h3 := r.ex st
  generalize evF P W k = F at *
  have e1 : evS F W (.expr (.call f es)) ρ st = none := by simp only [evS, evE, h1, h2]
  constructor
  · simp only [evSs, e1]
  · simp only [xSs, e1, xS, xE, h1, h3, exOf]
/-- a statement that goes on -/
theorem rz_skip {F : FT} {W : Nat} {s : CS} {rest : CSs} {ρ ρ' : Rho} {st st' : Sto} {z : Option (Str × D × Sto)} (h1 : evS F W s ρ st = some (.nx ρ' st')) (h2 : evSs F W rest ρ' st' = none ∧ xSs F W rest ρ' st' = z) :
    evSs F W (.cons s rest) ρ st = none ∧ xSs F W (.cons s rest) ρ st = z := by
  constructor
  · simp only [evSs, h1]
    exact h2.1
  · simp only [xSs, h1]
    exact h2.2
/-- if c: raise C(e) -/
theorem rz_if {F : FT} {W : Nat} {c e : CE} {C : Str} {b rest : CSs} {ρ : Rho} {st : Sto} {x y : RV} (h1 : evE F c ρ st = some (x, st)) (h2 : truth x.d = some true) (h3 : evE F e ρ st = some (y, st)) :
    evSs F W (.cons (.ite c (.cons (.raise C e) .nil) b) rest) ρ st = none ∧ xSs F W (.cons (.ite c (.cons (.raise C e) .nil) b) rest) ρ st = some (C, y.d, st) := by
  have e1 : evS F W (.ite c (.cons (.raise C e) .nil) b) ρ st = none := by simp only [evS, h1, h2, evSs]
  constructor
  · simp only [evSs, e1]
  · simp only [xSs, e1, xS, h1, h2, h3, evSs, evS]
theorem skip_of {F : FT} {W : Nat} {s : CS} {ρ ρ' : Rho} {st st' : Sto} (h : wp (evS F W s ρ st) fun fl => fl = .nx ρ' st') : evS F W s ρ st = some (.nx ρ' st') := eq_of_wp h
@[simp] theorem wE_lam {F : FT} {ρ : Rho} {st : Sto} {n : Nat} {Q : RV × Sto → Prop} : wp (evE F (.lam n) ρ st) Q ↔ Q (.v (cloD n), st) := by simp only [evE, wp_some]

/-! ### k40: any value -/
def ordB : D → Bool
  | .tuple ds => decide (1 ≤ ds.length) && decide (ds.length ≤ 10) && ds.all (btw 0 ((ds.length : Int) - 1)) && decide (sortI (intsOf (.tuple ds)) = cI (List.range ds.length))
  | _ => false
theorem ints_all {lo hi : Int} {ds : List D} (h : ds.all (btw lo hi) = true) : ds = (intsOf (.tuple ds)).map .int := by
  obtain ⟨xs, rfl, _⟩ := rowOf_all h
  rw [show intsOf (.tuple (xs.map .int)) = xs from intsOf_row]
theorem f_is_order_of_any {P : Nat → Option FD} {W k : Nat} {st : Sto} (h : H_is_order_of P) {ds : List D} (hd : nd2 (.tuple ds) = true) (hl : ds.length ≤ 10) : evF P W (k + 4) 466 [.int (ds.length : Int), .tuple ds] st = some (.v (.bool (ds.all (btw 0 ((ds.length : Int) - 1)) && decide (sortI (intsOf (.tuple ds)) = cI (List.range ds.length)))), st) := by
  apply eq_of_wp
  apply w_fn h.p rfl
  have e0 := f_are_between (W := W) (k := k) (st := st) (lo := 0) (hi := (ds.length : Int) - 1) h.are_between hd
  rw [abtw_t] at e0
  have e1 := rng_1 (j := (ds.length : Int)) (by omega) (by omega)
  have hq := fun q : ds.all (btw 0 ((ds.length : Int) - 1)) = true => ints_all q
  generalize ds.all (btw 0 ((ds.length : Int) - 1)) = Q at e0 hq
  simp [b_is_order_of, e0]
  cases Q with
  | false => simp
  | true =>
    have hi := hq rfl
    have e2 := b_sortT (xs := intsOf (.tuple ds)) (by
      have := congrArg List.length hi
      simp only [List.length_map] at this
      rw [← this]
      simp only [maxLen]
      omega)
    unfold dInts at e2
    rw [← hi] at e2
    simp [e2, e1, rangeL_cI, c_eq, fl_lints, eqv_lints]
theorem f_is_order_any {P : Nat → Option FD} {W k : Nat} {st : Sto} (h : H_is_order P) {d : D} (hd : nd2 d = true) : evF P W (k + 5) 465 [d] st = some (.v (.bool (ordB d)), st) := by
  apply eq_of_wp
  apply w_fn h.p rfl
  cases d
  case dict kvs => simp [b_is_order, is_dct (show nd (.dict kvs) = true from hd), ordB]
  case tuple ds =>
    have e1 := f_is_between (W := W) (k := k + 2) (st := st) (lo := 1) (hi := 10) h.is_between (d := .int (ds.length : Int)) rfl
    by_cases q : 1 ≤ ds.length ∧ ds.length ≤ 10
    · have e2 := f_is_order_of_any (W := W) (k := k) (st := st) h.is_order_of hd q.2
      have q1 : (1 : Int) ≤ (ds.length : Int) := by omega
      have q2 : (ds.length : Int) ≤ 10 := by omega
      simp [b_is_order, e1, q1, q2, e2, ordB, q.1, q.2]
    · have q3 : (decide ((1 : Int) ≤ (ds.length : Int)) && decide ((ds.length : Int) ≤ 10)) = false := by
        rw [← Bool.decide_and]
        exact decide_eq_false (by omega)
      have q4 : (decide (1 ≤ ds.length) && decide (ds.length ≤ 10)) = false := by
        rw [← Bool.decide_and]
        exact decide_eq_false q
      simp [b_is_order, e1, q3, ordB, q4]
  all_goals simp [b_is_order, ordB]
theorem f_law_is_order {P : Nat → Option FD} {W k : Nat} {st : Sto} (h : H_u_law_is_order P) {ds : List D} (hd : nd2 (.tuple ds) = true) (hl : ds.length ≤ 10) : evF P W (k + 2) 144 [.int (ds.length : Int), .tuple ds] st = some (.v (.bool (ds.all (btw 0 ((ds.length : Int) - 1)) && decide (sortI (intsOf (.tuple ds)) = cI (List.range ds.length)))), st) := by
  apply eq_of_wp
  apply w_fn h.p rfl
  have e1 := rng_1 (j := (ds.length : Int)) (by omega) (by omega)
  have hnd : ∀ d ∈ ds, nd d = true := by
    simp only [nd2_t, Bool.and_eq_true, List.all_eq_true] at hd
    exact hd.1
  simp [b_u_law_is_order, c_eq, cast_eqv]
  refine wp_compD (fun d => .bool (btw 0 ((ds.length : Int) - 1) d)) (fun d hdm => ?_) ?_
  · have e0 := f_law_is_int (W := W) (k := k) (st := st) (lo := 0) (hi := (ds.length : Int) - 1) h.u_law_is_int (hnd d hdm)
    simp [e0]
  · refine ⟨by simp only [List.length_map, maxLen]; omega, ?_⟩
    simp only [d_o, wEs_nil, wp_some]
    rw [b_all]
    have hq := fun q : ds.all (btw 0 ((ds.length : Int) - 1)) = true => ints_all q
    generalize ds.all (btw 0 ((ds.length : Int) - 1)) = Q at hq
    cases Q with
    | false => simp
    | true =>
      have hi := hq rfl
      have e2 := b_sortT (xs := intsOf (.tuple ds)) (by
        have := congrArg List.length hi
        simp only [List.length_map] at this
        rw [← this]
        simp only [maxLen]
        omega)
      unfold dInts at e2
      rw [← hi] at e2
      simp [e2, e1, rangeL_cI, c_eq, fl_lints, eqv_lints]
/-- what an order is among values -/
theorem ordB_ok {d : D} (h : ordB d = true) : ∃ xs, okO xs ∧ d = dN xs := by
  cases d <;> first | (cases h; done) | skip
  case tuple ds =>
    have h : (decide (1 ≤ ds.length) && decide (ds.length ≤ 10) && ds.all (btw 0 ((ds.length : Int) - 1)) && decide (sortI (intsOf (.tuple ds)) = cI (List.range ds.length))) = true := h
    simp only [Bool.and_eq_true, decide_eq_true_eq] at h
    obtain ⟨⟨⟨h1, h2⟩, h3⟩, h4⟩ := h
    have hi := ints_all h3
    have hp : (intsOf (.tuple ds)).Perm (cI (List.range ds.length)) := by
      rw [← h4]
      exact (sortI_perm _).symm
    refine ⟨(intsOf (.tuple ds)).map Int.toNat, ⟨?_, ?_, ?_⟩, ?_⟩
    · have hl : (intsOf (.tuple ds)).length = ds.length := by
        have := congrArg List.length hi
        simpa using this.symm
      have := hp.map Int.toNat
      have e : (cI (List.range ds.length)).map Int.toNat = List.range ds.length := by simp [cI, Function.comp_def]
      rw [e] at this
      simpa [hl] using this
    · have := congrArg List.length hi
      simp only [List.length_map] at this ⊢
      omega
    · have := congrArg List.length hi
      simp only [List.length_map] at this ⊢
      omega
    · show PyData.tuple ds = dInts (cI ((intsOf (.tuple ds)).map Int.toNat))
      have e : cI ((intsOf (.tuple ds)).map Int.toNat) = intsOf (.tuple ds) := by
        unfold cI
        rw [List.map_map]
        refine (List.map_congr_left fun x hx => ?_).trans (List.map_id _)
        have := hp.mem_iff.mp hx
        obtain ⟨y, _, rfl⟩ := List.mem_map.mp this
        simp
      rw [e]
      unfold dInts
      rw [← hi]
theorem ordB_of {xs : List Nat} (ok : okO xs) : ordB (dN xs) = true := by
  have h1 := ok.lo
  have h2 := ok.hi
  have h3 := ok.abtw
  have h4 := ok.sort
  have e : intsOf (.tuple ((cI xs).map .int)) = cI xs := intsOf_row
  show (decide (1 ≤ ((cI xs).map PyData.int).length) && decide (((cI xs).map PyData.int).length ≤ 10) && ((cI xs).map PyData.int).all (btw 0 ((((cI xs).map PyData.int).length : Int) - 1)) && decide (sortI (intsOf (.tuple ((cI xs).map .int))) = cI (List.range ((cI xs).map PyData.int).length))) = true
  have hl : ((cI xs).map PyData.int).length = xs.length := by simp
  rw [hl, e, h4]
  simp only [dN, dInts, abtw_t] at h3
  rw [h3]
  simp [h1, h2]
/-- codes -/
def codB : D → Bool
  | .tuple ds => decide (1 ≤ ds.length) && decide (ds.length ≤ 10) && ds.zipIdx.all fun q => btw 0 ((ds.length : Int) - 1 - (q.2 : Int)) q.1
  | _ => false
theorem f_is_code {P : Nat → Option FD} {W k : Nat} {st : Sto} (h : H_is_code P) {d : D} (hd : nd2 d = true) : evF P W (k + 3) 451 [d] st = some (.v (.bool (codB d)), st) := by
  apply eq_of_wp
  apply w_fn h.p rfl
  cases d
  case dict kvs => simp [b_is_code, is_dct (show nd (.dict kvs) = true from hd), codB]
  case tuple ds =>
    have hnd : ∀ d ∈ ds, nd d = true := by
      simp only [nd2_t, Bool.and_eq_true, List.all_eq_true] at hd
      exact hd.1
    have e1 := f_is_between (W := W) (k := k) (st := st) (lo := 1) (hi := 10) h.is_between (d := .int (ds.length : Int)) rfl
    by_cases q : 1 ≤ ds.length ∧ ds.length ≤ 10
    · have q1 : (1 : Int) ≤ (ds.length : Int) := by omega
      have q2 : (ds.length : Int) ≤ 10 := by omega
      simp [b_is_code, e1, q1, q2, -seqQ_nx]
      rw [seqQ_nx]
      simp
      have en : enumOf ds = ds.zipIdx.map fun q => PyData.tuple [.int (q.2 : Nat), q.1] := rfl
      rw [en]
      refine wp_comp (e := fun q : D × Nat => PyData.tuple [.int (q.2 : Nat), q.1]) (f := fun q : D × Nat => PyData.bool (btw 0 ((ds.length : Int) - 1 - (q.2 : Int)) q.1)) (fun q hq => ?_) ?_
      · obtain ⟨d, i⟩ := q
        have hm : d ∈ ds := (List.mem_zipIdx hq).2.2 ▸ List.getElem_mem _
        have e0 := f_is_between (W := W) (k := k) (st := st) (lo := 0) (hi := (ds.length : Int) - 1 - (i : Int)) h.is_between (hnd d hm)
        simp [e0]
      · refine ⟨by simp only [List.length_map, List.length_zipIdx, maxLen]; omega, ?_⟩
        simp only [d_o, wEs_nil, wp_some]
        rw [b_allG (fun q : D × Nat => btw 0 ((ds.length : Int) - 1 - (q.2 : Int)) q.1)]
        simp [codB, q.1, q.2]
    · have q3 : (decide ((1 : Int) ≤ (ds.length : Int)) && decide ((ds.length : Int) ≤ 10)) = false := by
        rw [← Bool.decide_and]
        exact decide_eq_false (by omega)
      have q4 : (decide (1 ≤ ds.length) && decide (ds.length ≤ 10)) = false := by
        rw [← Bool.decide_and]
        exact decide_eq_false q
      simp [b_is_code, e1, q3, codB, q4]
  all_goals simp [b_is_code, codB]
theorem f_law_is_code {P : Nat → Option FD} {W k : Nat} {st : Sto} (h : H_u_law_is_code P) {d : D} (hd : nd2 d = true) : evF P W (k + 2) 114 [d] st = some (.v (.bool (codB d)), st) := by
  apply eq_of_wp
  apply w_fn h.p rfl
  cases d
  case dict kvs => simp [b_u_law_is_code, is_dct (show nd (.dict kvs) = true from hd), codB]
  case tuple ds =>
    have hnd : ∀ d ∈ ds, nd d = true := by
      simp only [nd2_t, Bool.and_eq_true, List.all_eq_true] at hd
      exact hd.1
    by_cases q : 1 ≤ ds.length ∧ ds.length ≤ 10
    · have q1 : (1 : Int) ≤ (ds.length : Int) := by omega
      have q2 : (ds.length : Int) ≤ 10 := by omega
      simp [b_u_law_is_code, q1, q2, -seqQ_nx]
      rw [seqQ_nx]
      simp
      have en : enumOf ds = ds.zipIdx.map fun q => PyData.tuple [.int (q.2 : Nat), q.1] := rfl
      rw [en]
      refine wp_comp (e := fun q : D × Nat => PyData.tuple [.int (q.2 : Nat), q.1]) (f := fun q : D × Nat => PyData.bool (btw 0 ((ds.length : Int) - 1 - (q.2 : Int)) q.1)) (fun q hq => ?_) ?_
      · obtain ⟨d, i⟩ := q
        have hm : d ∈ ds := (List.mem_zipIdx hq).2.2 ▸ List.getElem_mem _
        have e0 := f_law_is_int (W := W) (k := k) (st := st) (lo := 0) (hi := (ds.length : Int) - 1 - (i : Int)) h.u_law_is_int (hnd d hm)
        simp [e0]
      · refine ⟨by simp only [List.length_map, List.length_zipIdx, maxLen]; omega, ?_⟩
        simp only [d_o, wEs_nil, wp_some]
        rw [b_allG (fun q : D × Nat => btw 0 ((ds.length : Int) - 1 - (q.2 : Int)) q.1)]
        simp [codB, q.1, q.2]
    · have q4 : (decide (1 ≤ ds.length) && decide (ds.length ≤ 10)) = false := by
        rw [← Bool.decide_and]
        exact decide_eq_false q
      by_cases q1 : (1 : Int) ≤ (ds.length : Int)
      · have q2 : ¬ (ds.length : Int) ≤ 10 := by omega
        simp [b_u_law_is_code, q1, q2, codB, q4]
      · simp [b_u_law_is_code, q1, codB, q4]
  all_goals simp [b_u_law_is_code, codB]

/-! ### k40: what is computed -/
theorem f_falls {P : Nat → Option FD} {W k : Nat} {st : Sto} (h : H_falls P) {xs : List Nat} (ok : okO xs) : evF P W (k + 7) 395 [dN xs] st = some (.v (.tuple ((flN xs).map dP)), st) := by
  apply eq_of_wp
  apply w_fn h.p rfl
  have e1 := f_check_order (W := W) (k := k) (st := st) h.check_order ok
  have e2 := f_falls_of (W := W) (k := k + 5) (st := st) h.falls_of ok.hi
  simp [b_falls, e1, e2]
def cod1 (xs : List Nat) (m : Nat) : List Nat := (List.range m).map fun i => (prN xs i).length
theorem cnt_same {a t : Nat} : ∀ l : List Nat, ((l.map fun j => (a, j)).map (·.1)).count t = if a = t then l.length else 0
  | [] => by simp
  | x :: l => by
    have := cnt_same (a := a) (t := t) l
    simp only [List.map_cons, List.count_cons, this]
    by_cases q : a = t <;> simp [q]
theorem cnt_fl {xs : List Nat} {t : Nat} : ∀ m, ((flI xs m).map (·.1)).count t = if t < m then (prN xs t).length else 0
  | 0 => by simp [flI]
  | m + 1 => by
    rw [flI_succ, List.map_append, List.count_append, cnt_fl m, cnt_same]
    by_cases q : m = t
    · subst q
      simp
    · by_cases q2 : t < m
      · have : t < m + 1 := by omega
        simp [q, q2, this]
      · have : ¬ t < m + 1 := by omega
        simp [q, q2, this]
theorem prN_succ {x : Nat} {r : List Nat} {i : Nat} : (prN (x :: r) (i + 1)).length = (prN r i).length := by
  unfold prN
  rw [← List.countP_eq_length_filter, ← List.countP_eq_length_filter, List.countP_map, List.countP_map]
  have e : (x :: r).length - (i + 1 + 1) = r.length - (i + 1) := by simp
  rw [e]
  refine List.countP_congr fun q _ => ?_
  have e1 : (x :: r)[i + 1 + 1 + q]? = r[i + 1 + q]? := by
    rw [show i + 1 + 1 + q = (i + 1 + q) + 1 by omega]
    rfl
  simp [e1]
theorem prN_zero {x : Nat} {r : List Nat} : (prN (x :: r) 0).length = r.countP fun y => decide (y < x) := by
  unfold prN
  rw [← List.countP_eq_length_filter, List.countP_map]
  have e : r = (List.range r.length).map fun q => r[q]?.getD 0 := by
    apply List.ext_getElem
    · simp
    · intro i h1 h2
      simp [List.getElem?_eq_getElem h1]
  conv => rhs; rw [e, List.countP_map]
  have e : (x :: r).length - (0 + 1) = r.length := by simp
  rw [e]
  refine List.countP_congr fun q _ => ?_
  have e1 : (x :: r)[0 + 1 + q]? = r[q]? := by
    rw [show 0 + 1 + q = q + 1 by omega]
    rfl
  simp [e1]
theorem cod_code : ∀ xs : List Nat, cod1 xs xs.length = codeN xs
  | [] => rfl
  | x :: r => by
    have ih := cod_code r
    unfold cod1 at *
    rw [List.length_cons, List.range_succ_eq_map, List.map_cons, List.map_map, prN_zero, codeN, ← ih]
    congr 1
    refine List.map_congr_left fun i _ => ?_
    exact prN_succ
theorem c_cntL {xs : List Nat} {a : Nat} : cnt2 (.list (xs.map fun n : Nat => PyData.int (n : Int))) (.int (a : Int)) = some (.int (xs.count a : Nat)) := by
  have h := c_cnt (xs := cI xs) (a := (a : Int))
  have e : dInts (cI xs) = .tuple (xs.map fun n : Nat => PyData.int (n : Int)) := by simp [dInts, cI, Function.comp_def]
  have e2 : (cI xs).count (a : Int) = xs.count a := by
    unfold cI
    rw [List.count, List.count, List.countP_map]
    refine List.countP_congr fun q _ => ?_
    simp
    omega
  rw [e, e2] at h
  exact h
theorem f_code {P : Nat → Option FD} {W k : Nat} {st : Sto} (h : H_code P) {xs : List Nat} (ok : okO xs) : evF P W (k + 7) 355 [dN xs] st = some (.v (dN (codeN xs)), st) := by
  apply eq_of_wp
  apply w_fn h.p rfl
  have e1 := f_check_order (W := W) (k := k) (st := st) h.check_order ok
  have e2 := f_falls_of (W := W) (k := k + 5) (st := st) h.falls_of ok.hi
  have hl := ok.hi
  have hf := flN_len xs
  have hf2 : xs.length * xs.length ≤ 10 * 10 := Nat.mul_le_mul hl hl
  have hr := rangeOf_nat (n := xs.length) (by omega)
  simp [b_code, e1, e2, -seqQ_nx]
  rw [seqQ_nx]
  simp [e2, -seqQ_nx]
  refine wp_comp (e := dP) (f := fun p : Nat × Nat => PyData.int (p.1 : Int)) (fun p hp => by simp [dP]) ?_
  refine ⟨by simp only [List.length_map, maxLen]; omega, ?_⟩
  rw [seqQ_nx]
  simp [hr, -seqQ_nx]
  rw [show rangeL 0 xs.length = (List.range xs.length).map fun i : Nat => PyData.int (i : Int) by simp [rangeL]]
  have e3 : (flN xs).map (fun p : Nat × Nat => PyData.int (p.1 : Int)) = ((flN xs).map (·.1)).map fun n : Nat => PyData.int (n : Int) := by simp [Function.comp_def]
  refine wp_comp (e := fun i : Nat => PyData.int (i : Int)) (f := fun i : Nat => PyData.int (((flN xs).map (·.1)).count i : Nat)) (fun i hi => ?_) ?_
  · rw [e3]
    generalize (flN xs).map (·.1) = L
    simp [c_cntL]
  · refine ⟨by simp only [List.length_map, List.length_range, maxLen]; omega, ?_⟩
    have e4 : (List.range xs.length).map (fun i : Nat => PyData.int (((flN xs).map (·.1)).count i : Nat)) = (cI (codeN xs)).map .int := by
      rw [← cod_code]
      unfold cod1 cI
      rw [List.map_map, List.map_map]
      refine List.map_congr_left fun i hi => ?_
      have := cnt_fl (xs := xs) (t := i) xs.length
      rw [if_pos (List.mem_range.mp hi)] at this
      show PyData.int ((((flI xs xs.length).map (·.1)).count i : Nat) : Int) = PyData.int ((prN xs i).length : Int)
      rw [this]
    rw [e4]
    simp [dInts]
theorem idx_dN {xs : List Nat} {v : Nat} (h : v ∈ xs) : idx2 (dN xs) (.int (v : Int)) = some (.int (posN xs v : Nat)) := by
  have hs : shalAll 19 ((cI xs).map PyData.int) = true := sh_iff.mpr fun d hd => by
    obtain ⟨y, _, rfl⟩ := List.mem_map.mp hd
    exact sh_int
  obtain ⟨i, e1, e2⟩ := pos_some h
  have e3 : ((cI xs).map PyData.int).findIdx? (fun y => PyData.eqv y (.int (v : Int))) = xs.findIdx? fun y => decide (y = v) := by
    unfold cI
    rw [List.map_map, List.findIdx?_map]
    congr 1
    funext y
    show PyData.eqv (.int (y : Int)) (.int (v : Int)) = _
    rw [Bool.eq_iff_iff]
    simp [PyData.eqv]
    omega
  simp only [idx2, dInts, hs, fl_int, Bool.and_self, if_true, e3, e1, Option.map_some, posN, Option.getD_some]
theorem f_turn {P : Nat → Option FD} {W k : Nat} {st : Sto} (h : H_turn P) {xs : List Nat} (ok : okO xs) : evF P W (k + 1) 697 [dN xs] st = some (.v (dN (turnN xs)), st) := by
  apply eq_of_wp
  apply w_fn h.p rfl
  have hl := ok.hi
  have hr := rangeOf_nat (n := xs.length) (by omega)
  simp [b_turn, hr, -seqQ_nx]
  rw [show rangeL 0 xs.length = (List.range xs.length).map fun i : Nat => PyData.int (i : Int) by simp [rangeL]]
  refine wp_comp (e := fun i : Nat => PyData.int (i : Int)) (f := fun i : Nat => PyData.int (posN xs i : Nat)) (fun i hi => ?_) ?_
  · have hm : i ∈ xs := ok.perm.mem_iff.mpr hi
    have := idx_dN hm
    simp [this]
  · refine ⟨by simp only [List.length_map, List.length_range, maxLen]; omega, ?_⟩
    simp [dInts, turnN, cI, Function.comp_def]
theorem f_turned {P : Nat → Option FD} {W k : Nat} {st : Sto} (h : H_turned P) {xs : List Nat} (ok : okO xs) : evF P W (k + 7) 699 [dN xs] st = some (.v (dN (turnN xs)), st) := by
  apply eq_of_wp
  apply w_fn h.p rfl
  have e1 := f_check_order (W := W) (k := k) (st := st) h.check_order ok
  have e2 := f_turn (W := W) (k := k + 5) (st := st) h.turn ok
  simp [b_turned, e1, e2]
/-- codes -/
structure okK (cs : List Nat) : Prop where
  c : okC cs.length cs
  lo : 1 ≤ cs.length
  hi : cs.length ≤ 10
theorem okC_at : ∀ {cs : List Nat} {n : Nat}, cs.length = n → (∀ i c, cs[i]? = some c → c + i < n) → okC n cs
  | [], n, h, _ => h.symm
  | c :: cs, n, h, hc => by
    refine ⟨by have := hc 0 c rfl; omega, okC_at (by simp at h; omega) fun i d hd => ?_⟩
    have := hc (i + 1) d (by simpa using hd)
    omega
theorem okC_get : ∀ {cs : List Nat} {n i c : Nat}, okC n cs → cs[i]? = some c → c + i < n
  | [], n, i, c, _, hc => by simp at hc
  | c :: cs, n, 0, d, h, hc => by
    simp at hc
    subst hc
    exact h.1
  | c :: cs, n, i + 1, d, h, hc => by
    have := okC_get h.2 (by simpa using hc)
    omega
theorem codB_ok {d : D} (h : codB d = true) : ∃ cs, okK cs ∧ d = dN cs := by
  cases d <;> first | (cases h; done) | skip
  case tuple ds =>
    have h : (decide (1 ≤ ds.length) && decide (ds.length ≤ 10) && ds.zipIdx.all fun q => btw 0 ((ds.length : Int) - 1 - (q.2 : Int)) q.1) = true := h
    simp only [Bool.and_eq_true, decide_eq_true_eq, List.all_eq_true] at h
    obtain ⟨⟨h1, h2⟩, h3⟩ := h
    have hget : ∀ i (hi : i < ds.length), ∃ c : Nat, ds[i] = .int (c : Int) ∧ c + i < ds.length := fun i hi => by
      have := h3 (ds[i], i) (by
        rw [List.mem_zipIdx_iff_getElem?]
        simp [hi])
      simp only at this
      cases e : ds[i] with
      | int x =>
        rw [e] at this
        simp only [btw, Bool.and_eq_true, decide_eq_true_eq] at this
        exact ⟨x.toNat, by congr 1; omega, by omega⟩
      | _ => rw [e] at this; cases this
    have e : ds = (cI ((intsOf (.tuple ds)).map Int.toNat)).map .int := by
      have hb : ds.all (btw 0 ((ds.length : Int) - 1)) = true := by
        rw [List.all_eq_true]
        intro d hd
        obtain ⟨i, hi, rfl⟩ := List.getElem_of_mem hd
        obtain ⟨c, e, hc⟩ := hget i hi
        rw [e]
        simp only [btw, Bool.and_eq_true, decide_eq_true_eq]
        omega
      obtain ⟨xs, hx, hx2⟩ := rowOf_all hb
      rw [hx]
      rw [show intsOf (.tuple (xs.map .int)) = xs from intsOf_row]
      congr 1
      unfold cI
      rw [List.map_map]
      refine ((List.map_congr_left fun x hx' => ?_).trans (List.map_id _)).symm
      have := hx2 x hx'
      simp
      omega
    generalize (intsOf (.tuple ds)).map Int.toNat = cs at e
    have hl : ds.length = cs.length := by rw [e]; simp
    refine ⟨cs, ⟨okC_at rfl fun i c hc => ?_, by omega, by omega⟩, by rw [e]; rfl⟩
    obtain ⟨hi, hc⟩ := List.getElem?_eq_some_iff.mp hc
    obtain ⟨c', e', hc'⟩ := hget i (by omega)
    have : ds[i]? = some (.int (c : Int)) := by
      rw [e]
      simp [cI, hi, hc]
    rw [List.getElem?_eq_getElem (by omega), e'] at this
    injection this with this
    injection this with this
    omega
theorem codB_of {cs : List Nat} (ok : okK cs) : codB (dN cs) = true := by
  have h1 := ok.lo
  have h2 := ok.hi
  show (decide (1 ≤ ((cI cs).map PyData.int).length) && decide (((cI cs).map PyData.int).length ≤ 10) && ((cI cs).map PyData.int).zipIdx.all fun q => btw 0 ((((cI cs).map PyData.int).length : Int) - 1 - (q.2 : Int)) q.1) = true
  have hl : ((cI cs).map PyData.int).length = cs.length := by simp
  rw [hl]
  simp only [h1, h2, decide_true, Bool.true_and, List.all_eq_true]
  rintro ⟨d, i⟩ hd
  rw [List.mem_zipIdx_iff_getElem?] at hd
  simp only at hd
  rw [List.getElem?_map, cI_at] at hd
  cases e : cs[i]? with
  | none => rw [e] at hd; simp at hd
  | some c =>
    rw [e] at hd
    simp at hd
    subst hd
    have := okC_get ok.c e
    simp only [btw, Bool.and_eq_true, decide_eq_true_eq]
    omega

/-! ### k40: orders of codes; what is refused; the law's falls -/
theorem map_erase {α β : Type} {f : α → β} : ∀ (l : List α) (i : Nat), (l.map f).eraseIdx i = (l.eraseIdx i).map f
  | [], _ => rfl
  | _ :: _, 0 => rfl
  | x :: l, i + 1 => by simp [map_erase l i]
theorem f_order_of {P : Nat → Option FD} {W k : Nat} {st : Sto} (h : H_order_of P) {cs : List Nat} (ok : okK cs) : evF P W (k + 4) 553 [dN cs] st = some (.v (dN (decN (List.range cs.length) cs)), st) := by
  apply eq_of_wp
  apply w_fn h.p rfl
  have hl := ok.hi
  have hnd : nd2 (dN cs) = true := by
    unfold dN dInts
    simp [nd2_t, cI, maxLen]
    omega
  have e1 := f_is_code (W := W) (k := k) (st := st) h.is_code (d := dN cs) hnd
  rw [codB_of ok] at e1
  have hr := rangeOf_nat (n := cs.length) (by omega)
  have m10 : cs.length ≤ maxLen := by simp only [maxLen]; omega
  simp [b_order_of, e1, -seqQ_nx]
  rw [seqQ_nx]
  simp [hr, -seqQ_nx]
  rw [seqQ_nx]
  simp [-seqQ_nx]
  refine wp_loop (fun i ρ s => s = st ∧ ∃ (left out : List Nat) (z : Option RV), out ++ decN left (cs.drop i) = decN (List.range cs.length) cs ∧ okC left.length (cs.drop i) ∧ out.length + left.length = cs.length ∧
    ρ = [some (.v (dN cs)), z, some (.o ((cI left).map .int)), some (.o ((cI out).map .int))]) ⟨rfl, List.range cs.length, [], none, rfl, by simpa using ok.c, by simp, ?_⟩ ?_ ?_
  · rw [rangeL_cI]
    rfl
  · rintro i d ρ s hd ⟨rfl, left, out, z, e, oc, ol, rfl⟩
    rw [List.getElem?_map, cI_at] at hd
    cases hc : cs[i]? with
    | none => rw [hc] at hd; simp at hd
    | some c =>
      rw [hc] at hd
      simp at hd
      subst hd
      obtain ⟨hi, hc'⟩ := List.getElem?_eq_some_iff.mp hc
      have hdr : cs.drop i = c :: cs.drop (i + 1) := by rw [List.drop_eq_getElem_cons hi, hc']
      rw [hdr] at e oc
      have hcl : c < left.length := oc.1
      have hx : left[c]? = some left[c] := List.getElem?_eq_getElem hcl
      have hx2 : ((cI left).map PyData.int)[c]? = some (.int (left[c] : Int)) := by rw [List.getElem?_map, cI_at, hx]; rfl
      have hcl2 : c < ((cI left).map PyData.int).length := by simpa using hcl
      simp [ixN_nat hcl, hx2, maxLen]
      refine ⟨by omega, .int (left[c] : Int), ⟨(left[c] : Int), by rw [cI_at, hx]; rfl, rfl⟩, left.eraseIdx c, out ++ [left[c]], ?_, ?_, ?_, ?_, ?_⟩
      · simp only [decN, hx, Option.getD_some] at e
        rw [← e]
        simp
      · rw [List.length_eraseIdx_of_lt hcl]
        exact oc.2
      · rw [List.length_eraseIdx_of_lt hcl, List.length_append, List.length_singleton]
        omega
      · simp only [cI, map_erase]
      · simp [cI]
  · rintro ρ s ⟨rfl, left, out, z, e, oc, ol, rfl⟩
    have hlen : ((cI cs).map PyData.int).length = cs.length := by simp
    rw [hlen, List.drop_length] at e
    simp only [decN, List.append_nil] at e
    rw [seqQ_nx]
    simp [e, dInts]

section
variable {P : Nat → Option FD} {W k : Nat} (hb : ∀ f, B0 ≤ f → P f = none)
include hb
theorem rz_order (h : H_check_order P) {d : D} (hd : nd2 d = true) (hn : ordB d = false) : Rz P W (k + 6) 319 [d] "BadOrder" d :=
  Rz.of hb (by decide +kernel) h.p rfl rfl fun st => by
    have e1 := f_is_order_any (W := W) (k := k) (st := st) h.is_order hd
    rw [hn] at e1
    exact rz_if (x := .v (.bool true)) (y := .v d) (eq_of_wp (by simp [e1])) rfl (eq_of_wp (by simp))
theorem rz_falls (h : H_falls P) {d : D} (hd : nd2 d = true) (hn : ordB d = false) : Rz P W (k + 7) 395 [d] "BadOrder" d :=
  Rz.of hb (by decide +kernel) h.p rfl rfl fun st => (rz_order hb h.check_order hd hn).first (eq_of_wp (by simp))
theorem rz_code (h : H_code P) {d : D} (hd : nd2 d = true) (hn : ordB d = false) : Rz P W (k + 7) 355 [d] "BadOrder" d :=
  Rz.of hb (by decide +kernel) h.p rfl rfl fun st => (rz_order hb h.check_order hd hn).first (eq_of_wp (by simp))
theorem rz_turned (h : H_turned P) {d : D} (hd : nd2 d = true) (hn : ordB d = false) : Rz P W (k + 7) 699 [d] "BadOrder" d :=
  Rz.of hb (by decide +kernel) h.p rfl rfl fun st => (rz_order hb h.check_order hd hn).first (eq_of_wp (by simp))
theorem rz_order_of (h : H_order_of P) {d : D} (hd : nd2 d = true) (hn : codB d = false) : Rz P W (k + 4) 553 [d] "BadCode" d :=
  Rz.of hb (by decide +kernel) h.p rfl rfl fun st => by
    have e1 := f_is_code (W := W) (k := k) (st := st) h.is_code hd
    rw [hn] at e1
    exact rz_if (x := .v (.bool true)) (y := .v d) (eq_of_wp (by simp [e1])) rfl (eq_of_wp (by simp))
end
theorem f_law_falls {P : Nat → Option FD} {W k : Nat} {st : Sto} (h : H_u_law_falls P) {xs : List Nat} (hl : xs.length ≤ 10) : evF P W (k + 1) 88 [dN xs] st = some (.o ((flN xs).map dP), st) := by
  apply eq_of_wp
  apply w_fn h.p rfl
  have hr := rangeOf_nat (n := xs.length) (by omega)
  simp [b_u_law_falls, hr]
  refine wp_loop (fun i ρ s => s = st ∧ i ≤ xs.length ∧ ∃ u v, ρ = [some (.v (dN xs)), some (.o ((flI xs i).map dP)), u, v]) ⟨rfl, Nat.zero_le _, none, none, rfl⟩ ?_ ?_
  · rintro i d ρ s hd ⟨rfl, hi, u, v, rfl⟩
    obtain ⟨hlt, rfl⟩ := rgN hd
    have e1 := rng2N (a := i + 1) (b := xs.length) (by omega) (by omega)
    simp only [Int.natCast_add, Int.cast_ofNat_Int] at e1
    have e3 := sub_dN (xs := xs) (List.getElem?_eq_getElem hlt)
    simp [e1]
    refine wp_compIf (e := fun q : Nat => PyData.int ((i : Int) + 1 + q)) (p := fun q => decide (xs[i + 1 + q]?.getD 0 < xs[i]?.getD 0)) (f := fun q : Nat => dP (i, i + 1 + q)) (fun q hq => ?_) ?_
    · have hq' : i + 1 + q < xs.length := by have := List.mem_range.mp hq; omega
      have e4 : sub2 (dN xs) (.int ((i : Int) + 1 + q)) = some (.int ((xs[i + 1 + q]?.getD 0 : Nat) : Int)) := by
        have := sub_dN (xs := xs) (List.getElem?_eq_getElem hq')
        rw [List.getElem?_eq_getElem hq']
        simpa using this
      rw [show ((xs[i] : Nat) : Int) = ((xs[i]?.getD 0 : Nat) : Int) by simp [hlt]] at e3
      by_cases z : xs[i + 1 + q]?.getD 0 < xs[i]?.getD 0
      · simp [e4, e3, z, dP, maxLen]
      · simp [e4, e3, z]
    · have e5 : ((List.range (xs.length - (i + 1))).filter fun q => decide (xs[i + 1 + q]?.getD 0 < xs[i]?.getD 0)).map (fun q : Nat => dP (i, i + 1 + q)) = ((prN xs i).map fun j => (i, j)).map dP := by
        simp [prN, List.filter_map, Function.comp_def]
      have l1 := flI_len (xs := xs) (m := i)
      have l2 := prN_len (xs := xs) (i := i)
      have l3 : i * xs.length ≤ 10 * 10 := Nat.mul_le_mul (by omega) hl
      rw [e5]
      refine ⟨by simp [maxLen]; omega, by simp [maxLen]; omega, rfl, by omega, ?_⟩
      rw [flI_succ, List.map_append]
  · rintro ρ s ⟨rfl, hi, u, v, rfl⟩
    rw [seqQ_nx]
    simp [rangeL_len, flI, flN]

/-! ### rows of small numbers, bent: plain values -/
structure okZ (d : D) : Prop where
  e : okE d
  p : pur d = true
structure okJ (d : D) : Prop where
  e : okI d
  p : pur d = true
theorem purs_mem : ∀ {ds : List D}, purs ds = true ↔ ∀ d ∈ ds, pur d = true
  | [] => by simp [purs]
  | d :: r => by simp [purs, purs_mem (ds := r)]
theorem okJ_bent {x : Int} (hx : 0 ≤ x ∧ x ≤ 10) : ∀ d ∈ bentI x, okJ d := by
  have h0 : ∀ n ∈ List.range 11, ((bentI (n : Int)).all fun d => okIb d && pur d) = true := by decide +kernel
  intro d hd
  obtain ⟨n, rfl⟩ := Int.eq_ofNat_of_zero_le hx.1
  have h := List.all_eq_true.mp (h0 n (List.mem_range.mpr (by omega))) d hd
  rw [Bool.and_eq_true] at h
  exact ⟨okI_of h.1, h.2⟩
theorem okZ_odd : ∀ d ∈ oddL, okZ d := by
  have h0 : (oddL.all pur) = true := by decide +kernel
  exact fun d hd => ⟨okE_odd d hd, List.all_eq_true.mp h0 d hd⟩
theorem pur_ints {xs : List Int} : purs (xs.map .int) = true := purs_mem.mpr fun d hd => by
  obtain ⟨x, _, rfl⟩ := List.mem_map.mp hd
  rfl
theorem okZ_ints {xs : List Int} (h : ∀ x ∈ xs, 0 ≤ x ∧ x ≤ 10) (hl : xs.length ≤ 30) : okZ (dInts xs) := by
  refine ⟨⟨?_, (Sho.shw (sho_ints (xs := xs) (c := 30) (fun x hx => by have := h x hx; omega) hl)).mono (by omega) (by omega)⟩, ?_⟩
  · simp only [dInts, nd2_t, Bool.and_eq_true, List.all_eq_true, decide_eq_true_eq]
    exact ⟨fun d hd => by obtain ⟨x, _, rfl⟩ := List.mem_map.mp hd; rfl, by simp [maxLen]; omega⟩
  · simp only [dInts, pur, pur_ints]
theorem okZ_lints {xs : List Int} (h : ∀ x ∈ xs, 0 ≤ x ∧ x ≤ 10) (hl : xs.length ≤ 30) : okZ (.list (xs.map .int)) := by
  refine ⟨⟨rfl, (Sho.shw (sho_listG (k := 0) (m := 11) (xs := xs.map .int) fun d hd => ?_)).mono (by omega) (by rw [List.length_map]; omega)⟩, ?_⟩
  · obtain ⟨x, hx, rfl⟩ := List.mem_map.mp hd
    exact sho_int (m := 10) (by have := h x hx; unfold bd; omega) (by omega) (by omega)
  · simp only [pur, pur_ints]
theorem ints_of10 {xs : List Int} {es : List D} (h : ∀ e ∈ es, e ∈ xs.map PyData.int ∨ e = .int 0) (hx : ∀ x ∈ xs, 0 ≤ x ∧ x ≤ 10) : ∃ ys : List Int, es = ys.map .int ∧ ∀ y ∈ ys, 0 ≤ y ∧ y ≤ 10 := by
  induction es with
  | nil => exact ⟨[], rfl, by simp⟩
  | cons e r ih =>
    obtain ⟨ys, rfl, hy⟩ := ih fun d hd => h d (List.mem_cons_of_mem _ hd)
    have : ∃ y : Int, e = .int y ∧ (0 ≤ y ∧ y ≤ 10) := by
      rcases h e (List.mem_cons_self ..) with he | he
      · obtain ⟨x, hx', rfl⟩ := List.mem_map.mp he
        exact ⟨x, rfl, hx x hx'⟩
      · exact ⟨0, he, by omega⟩
    obtain ⟨y, rfl, hy'⟩ := this
    exact ⟨y :: ys, rfl, fun z hz => by
      rcases List.mem_cons.mp hz with rfl | hz
      · exact hy'
      · exact hy z hz⟩
theorem bnt_nats {P : Nat → Option FD} {W k : Nat} (h : H_u_law_bent P) {xs : List Int} (h0 : xs ≠ []) (hl : xs.length ≤ 10) (hx : ∀ x ∈ xs, 0 ≤ x ∧ x ≤ 10) : Bnt P W (k + 5) 5 (dInts xs) okZ := by
  refine bnt_tupM (c := 2) (A := okJ) h (by simpa using h0) (by simpa using by omega) fl_ints (fun d hd => ?_) (fun es h1 h2 => ?_) (fun es h1 h2 => ?_) ?_ okZ_odd (fun j e hj he => ?_)
  · obtain ⟨x, hx', rfl⟩ := List.mem_map.mp hd
    have := hx x hx'
    exact bnt_intG h (by omega) (by omega) (okJ_bent this)
  · obtain ⟨ys, rfl, hy⟩ := ints_of10 (xs := xs) (es := es) (fun e he => .inl (h2 e he)) hx
    simp only [List.length_map] at h1
    exact okZ_lints hy (by omega)
  · obtain ⟨ys, rfl, hy⟩ := ints_of10 (xs := xs) (es := es) h2 hx
    simp only [List.length_map] at h1
    exact okZ_ints hy (by omega)
  · refine ⟨⟨rfl, (Sho.shw (sho_tup (k := 1) (m := 133) (xs := [dInts xs]) fun d hd => ?_)).mono (by omega) (by simp)⟩, ?_⟩
    · rw [List.mem_singleton] at hd
      subst hd
      exact sho_ints (c := 10) (fun x hx' => by have := hx x hx'; omega) hl
    · show purs [dInts xs] = true
      simp only [dInts, purs, pur, pur_ints, Bool.and_self]
  · have hj' : j < xs.length := by simpa using hj
    have pl : ∀ d ∈ (xs.map PyData.int).take j ++ (xs.map PyData.int).drop (j + 1), ∃ x ∈ xs, d = .int x := fun d hd => by
      have : d ∈ xs.map PyData.int := by
        rcases List.mem_append.mp hd with hd | hd
        · exact List.mem_of_mem_take hd
        · exact List.mem_of_mem_drop hd
      obtain ⟨x, hx', rfl⟩ := List.mem_map.mp this
      exact ⟨x, hx', rfl⟩
    have hs := shw_one (k := 4) (m := 200) (e := e) (xs := (xs.map PyData.int).take j) (ys := (xs.map PyData.int).drop (j + 1)) he.e.s fun d hd => by
      obtain ⟨x, hx', rfl⟩ := pl d hd
      have s0 : Sho 4 (.int x) 200 := (sho_int (k := 4) (m := 10) (by have := hx x hx'; unfold bd; omega) (by omega) (by omega)).mono (by omega) (by omega)
      exact ⟨Sho.shw s0, s0.fl, rfl⟩
    have hlen : ((xs.map PyData.int).take j).length + ((xs.map PyData.int).drop (j + 1)).length + 1 ≤ 10 := by
      rw [List.length_take, List.length_drop, List.length_map]; omega
    refine ⟨⟨?_, hs.mono (by omega) ?_⟩, ?_⟩
    · simp only [nd2_t, Bool.and_eq_true, List.all_eq_true, decide_eq_true_eq]
      refine ⟨fun d hd => ?_, by simp only [List.length_append, List.length_singleton, maxLen]; omega⟩
      simp only [List.mem_append, List.mem_singleton] at hd
      rcases hd with (hd | hd) | hd
      · obtain ⟨x, _, rfl⟩ := pl d (List.mem_append_left _ hd); rfl
      · subst hd; exact he.e.v
      · obtain ⟨x, _, rfl⟩ := pl d (List.mem_append_right _ hd); rfl
    · have := Nat.mul_le_mul_right 202 hlen
      exact Nat.le_trans (Nat.add_le_add_right this 3) (by omega)
    · show purs _ = true
      rw [purs_mem]
      intro d hd
      simp only [List.mem_append, List.mem_singleton] at hd
      rcases hd with (hd | hd) | hd
      · obtain ⟨x, _, rfl⟩ := pl d (List.mem_append_left _ hd); rfl
      · subst hd; exact he.p
      · obtain ⟨x, _, rfl⟩ := pl d (List.mem_append_right _ hd); rfl

/-! ### short rows of small numbers are shown; closures called -/
theorem sho_nats {xs : List Nat} (h : ∀ x ∈ xs, x < 11) (hl : xs.length ≤ 10) : Sho 1 (dN xs) 133 := by
  have : Sho 1 (dInts (cI xs)) (10 * 13 + 3) := sho_ints (c := 10) (fun x hx => by
    obtain ⟨y, hy, rfl⟩ := List.mem_map.mp hx
    have := h y hy
    omega) (by simpa using hl)
  exact this
theorem rp_bool (b : Bool) : blt .repr [.bool b] = some (.v (.str (PyData.bool b).shown)) := by
  cases b <;> rfl
theorem cc_at {F : FT} {g n : Nat} {a : CE} {ls : LLs} {ρ : Rho} {st : Sto} {o : D} {z : Option (RV × Sto)} (h1 : evE F a ρ st = some (.v (cloD n), st)) (h2 : evL F ls n ρ st = some o) (h3 : F g [o] st = z) : evE F (.cc g a .nil ls) ρ st = z := by
  have hc : cloOf (RV.v (cloD n)).d = some n := by simp [cloOf, cloD, RV.d]
  simp only [evE, h1, evEs, hc, h2]
  exact h3
theorem evL_hit {F : FT} {n f : Nat} {es : CEs} {r : LLs} {ρ : Rho} {st s1 s2 : Sto} {ds : List D} {o : D} (h1 : evEs F es (hideC ρ) [] = some (ds, s1)) (h2 : F (f + 5 * B0) ds [] = some (.v o, s2)) : evL F (.cons n f es r) n ρ st = some o := by
  simp only [evL, if_true, h1, h2]
theorem evL_miss {F : FT} {n m f : Nat} {es : CEs} {r : LLs} {ρ : Rho} {st : Sto} (h : m ≠ n) : evL F (.cons m f es r) n ρ st = evL F r n ρ st := by
  simp only [evL, if_neg h]
theorem sum_natI : ∀ l : List Nat, ints? (l.map fun n : Nat => PyData.int (n : Int)) = some (l.map fun n : Nat => (n : Int)) ∧ ((l.map fun n : Nat => (n : Int)).sum) = ((l.sum : Nat) : Int)
  | [] => ⟨rfl, rfl⟩
  | n :: r => by
    obtain ⟨h1, h2⟩ := sum_natI r
    constructor
    · simp [ints?, h1]
    · simp [h2]
theorem b_sumT (l : List Nat) : blt .sum [dN l] = some (.v (.int ((l.sum : Nat) : Int))) := by
  obtain ⟨h1, h2⟩ := sum_natI l
  have e : dN l = .tuple (l.map fun n : Nat => PyData.int (n : Int)) := by simp [dInts, cI, Function.comp_def]
  rw [e]
  simp only [blt, h1, Option.map_some, h2]
theorem o_rep {m : Nat} (h1 : 1 ≤ m) (h2 : m ≤ 1000) : op2 .mul (.tuple [.int 0]) (.int (m : Int)) = some (.v (dN (List.replicate m 0))) := by
  have a1 : decide ((1 : Int) ≤ (m : Int)) = true := decide_eq_true (by omega)
  have a2 : decide ((m : Int) ≤ 1000) = true := decide_eq_true (by omega)
  have e : (List.replicate m [PyData.int 0]).flatten = (cI (List.replicate m 0)).map .int := by
    induction m with
    | zero => rfl
    | succ m ih =>
      by_cases q : 1 ≤ m
      · have := ih q (by omega) (decide_eq_true (by omega)) (decide_eq_true (by omega))
        rw [List.replicate_succ, List.flatten_cons, this, List.replicate_succ]
        rfl
      · have : m = 0 := by omega
        subst this
        rfl
  simp only [op2, a1, a2, Bool.true_and, List.length_singleton, List.isEmpty_cons, Bool.not_false, Bool.and_true]
  rw [show (Int.toNat (m : Int)) = m by omega, e]
  rfl

/-! ### k40: towards the law -/
theorem fl_filter {xs : List Nat} {i : Nat} : ((flN xs).filter fun p => decide (p.1 = i)).length = if i < xs.length then (prN xs i).length else 0 := by
  have h := cnt_fl (xs := xs) (t := i) xs.length
  have e : ((flN xs).filter fun p => decide (p.1 = i)).length = ((flI xs xs.length).map (·.1)).count i := by
    rw [← List.countP_eq_length_filter, List.count, List.countP_map]
    refine List.countP_congr fun p _ => ?_
    simp
  rw [e, h]
theorem wE_isord {P : Nat → Option FD} {W k : Nat} {ρ : Rho} {st : Sto} {Q : RV × Sto → Prop} (h : H_u_law_is_order P) {d : D} (h7 : ρ[7]? = some (some (.v d))) (hd : nd2 d = true) (q : Q (.v (.bool (ordB d)), st)) :
    wp (evE (evF P W (k + 2)) (.and (.isi .tup (.var 7)) (.and (.chain .le .le (.con (.int 1)) (.blt .len (.cons false (.var 7) .nil)) (.con (.int 10))) (.one (.call 144 (.cons false (.blt .len (.cons false (.var 7) .nil)) (.cons false (.var 7) .nil)))))) ρ st) Q := by
  cases d
  case dict kvs =>
    simp [h7, is_dct (show nd (.dict kvs) = true from hd)]
    exact q
  case tuple ds =>
    by_cases z : 1 ≤ ds.length ∧ ds.length ≤ 10
    · have e := f_law_is_order (W := W) (k := k) (st := st) h hd z.2
      have q1 : (1 : Int) ≤ (ds.length : Int) := by omega
      have q2 : (ds.length : Int) ≤ 10 := by omega
      have eo : ordB (.tuple ds) = (ds.all (btw 0 ((ds.length : Int) - 1)) && decide (sortI (intsOf (.tuple ds)) = cI (List.range ds.length))) := by
        show (decide (1 ≤ ds.length) && decide (ds.length ≤ 10) && ds.all (btw 0 ((ds.length : Int) - 1)) && decide (sortI (intsOf (.tuple ds)) = cI (List.range ds.length))) = _
        simp only [z.1, z.2, decide_true, Bool.true_and]
      rw [eo] at q
      generalize (ds.all (btw 0 ((ds.length : Int) - 1)) && decide (sortI (intsOf (.tuple ds)) = cI (List.range ds.length))) = b at e q
      simp [h7, q1, q2, e]
      exact q
    · have eo : ordB (.tuple ds) = false := by
        show (decide (1 ≤ ds.length) && decide (ds.length ≤ 10) && ds.all (btw 0 ((ds.length : Int) - 1)) && decide (sortI (intsOf (.tuple ds)) = cI (List.range ds.length))) = false
        by_cases z1 : 1 ≤ ds.length
        · have z2 : ¬ ds.length ≤ 10 := fun z3 => z ⟨z1, z3⟩
          simp [z2]
        · simp [z1]
      rw [eo] at q
      by_cases q1 : (1 : Int) ≤ (ds.length : Int)
      · have q2 : ¬ (ds.length : Int) ≤ 10 := by omega
        simp [h7, q1, q2]
        exact q
      · simp [h7, q1]
        exact q
  all_goals (simp [h7]; exact q)
theorem sho_falls {xs : List Nat} (h : xs.length ≤ 10) : Sho 2 (.tuple ((flN xs).map dP)) 10000 := by
  have hl := flN_len xs
  have hf2 : xs.length * xs.length ≤ 10 * 10 := Nat.mul_le_mul h h
  have h1 : Sho 2 (.tuple ((flN xs).map dP)) (((flN xs).map dP).length * (29 + 2) + 3) := sho_tup (k := 1) (m := 29) fun d hd => by
    obtain ⟨⟨i, j⟩, hp, rfl⟩ := List.mem_map.mp hd
    obtain ⟨a1, a2, _⟩ := mem_flN.mp hp
    exact sho_ints (xs := [(i : Int), (j : Int)]) (c := 2) (fun x hx => by
      simp only [List.mem_cons, List.not_mem_nil, or_false] at hx
      rcases hx with rfl | rfl <;> omega) (by simp)
  exact h1.mono (by omega) (by rw [List.length_map]; omega)
theorem cut_last {α : Type} {xs : List α} (h : 1 ≤ xs.length) : cut xs none (some (-1)) = xs.dropLast := by
  have e : HT.sIx xs.length xs.length (some (-1)) = xs.length - 1 := by
    simp [HT.sIx]
    omega
  unfold cut
  rw [HT.sIx_none, e]
  simp [List.dropLast_eq_take]

theorem f_right40 {P : Nat → Option FD} {W k : Nat} {st : Sto} (hb : ∀ f, B0 ≤ f → P f = none) (h : H_u_law_right P) {n B : Nat} {Q : RV × Sto → Prop} (hp : PotAt n B st) (hB : B ≤ 10 ^ 12)
    (q : ∀ st', PotAt n (B + 1000) st' → st'.length = st.length → Q (.v (.bool true), st')) : wp (evF P W (k + 13) 208 [dCell n] st) Q := by
  apply w_fnL h.p rfl (fun h => by simp [l_u_law_right] at h) (by simp [pcl, cellOf, pur]) hp.pu
  have lit : ∀ {i : Int} {m : Nat}, i.natAbs < 10 ^ m → bd i m := fun h => h
  have m2 : 2 ≤ maxLen := by simp [maxLen]
  have m1 : 1 ≤ maxLen := by simp [maxLen]
  have m7 : (0 : Nat) < maxLen := by simp [maxLen]
  have m8 : (1 : Nat) < maxLen := by simp [maxLen]
  have m3 : 3 ≤ maxLen := by simp [maxLen]
  have hcO : (("BadOrder" : Str) == ("BadOrder" : Str)) = true := by decide +kernel
  have hcC : (("BadCode" : Str) == ("BadCode" : Str)) = true := by decide +kernel
  have eS : ∀ x : Str, PyData.eqv (.str x) (.str x) = true := fun x => eqv_same (n := 1) (by rfl)
  simp [b_u_law_right, -seqQ_nx]
  refine f_take h.u_law_take (by omega) (lit (by decide)) hp (by omega) fun v s1 v1 v2 hp1 hl1 => ?_
  obtain ⟨m, hm⟩ : ∃ m : Nat, (1 : Int) + v = (m : Int) := ⟨(1 + v).toNat, by omega⟩
  have lo : 1 ≤ m := by omega
  have hi : m ≤ 10 := by omega
  simp [hm, -seqQ_nx]
  rw [seqQ_nx]
  simp [-seqQ_nx]
  refine f_order (k := k + 9) h.u_law_order lo hi hp1 (by omega) fun xs s2 ok hxl hp2 hl2 => ?_
  subst hxl
  have hrm := rangeOf_nat (n := xs.length) (by omega)
  have pm : Prm xs.length xs := ⟨ok.perm⟩
  rw [seqQ_nx]
  -- falls
  have c1 := f_law_falls (W := W) (k := k + 11) (st := s2) h.u_law_falls hi
  have c2 := f_falls (W := W) (k := k + 5) (st := s2) h.falls ok
  have r1 := b_repr (sho_falls hi) (by omega) (by omega)
  have bt : blt .tuple [.list ((flN xs).map dP)] = some (.v (.tuple ((flN xs).map dP))) := rfl
  simp [c1, -seqQ_nx]
  rw [seqQ_nx]
  simp [c2, r1, bt, c_ne, eS, -seqQ_nx]
  rw [seqQ_nx]
  -- the code
  have hf := flN_len xs
  have hf2 : xs.length * xs.length ≤ 10 * 10 := Nat.mul_le_mul hi hi
  simp [hrm, -seqQ_nx]
  rw [show rangeL 0 xs.length = (List.range xs.length).map fun i : Nat => PyData.int (i : Int) by simp [rangeL]]
  refine wp_comp (e := fun i : Nat => PyData.int (i : Int)) (f := fun i : Nat => PyData.int ((((flN xs).filter fun p => decide (p.1 = i)).length : Nat) : Int)) (fun i hi' => ?_) ?_
  · simp
    refine wp_compIf (e := dP) (p := fun p => decide (p.1 = i)) (f := dP) (fun p hp => ?_) ?_
    · have e0 : sub2 (dP p) (.int 0) = some (.int (p.1 : Int)) := by
        have := sub_dN (xs := [p.1, p.2]) (i := 0) rfl
        exact this
      have eL : look s2 (dP p) = dP p := rfl
      by_cases z : p.1 = i
      · have z' : (p.1 : Int) = (i : Int) := by omega
        simp [eL, e0, c_eq, cast_eqv, z, z']
      · have z' : ¬ (p.1 : Int) = (i : Int) := by omega
        simp [eL, e0, c_eq, cast_eqv, z, z']
    · have := List.length_filter_le (fun p : Nat × Nat => decide (p.1 = i)) (flN xs)
      simp only [List.length_map]
      refine ⟨by simp only [maxLen]; omega, ?_⟩
      simp
  refine ⟨by simp only [List.length_map, List.length_range, maxLen]; omega, ?_⟩
  have e4 : (List.range xs.length).map (fun i : Nat => PyData.int ((((flN xs).filter fun p => decide (p.1 = i)).length : Nat) : Int)) = (cI (codeN xs)).map .int := by
    rw [← cod_code]
    unfold cod1 cI
    rw [List.map_map, List.map_map]
    refine List.map_congr_left fun i hi => ?_
    rw [fl_filter, if_pos (List.mem_range.mp hi)]
    rfl
  rw [e4, seqQ_nx]
  have hcl := codeN_len xs
  have hcm : ∀ y ∈ codeN xs, y < 11 := fun y hy => by
    obtain ⟨i, hi, rfl⟩ := List.getElem_of_mem hy
    have := okC_get (codeN_ok xs) (List.getElem?_eq_getElem hi)
    omega
  have hxm : ∀ y ∈ xs, y < 11 := fun y hy => by have := ok.lt hy; omega
  have okc : okK (codeN xs) := ⟨by rw [hcl]; exact codeN_ok xs, by omega, by omega⟩
  have c3 := f_code (W := W) (k := k + 5) (st := s2) h.code ok
  have c4 := f_order_of (W := W) (k := k + 8) (st := s2) h.order_of okc
  rw [hcl, dec_code xs (List.range xs.length) List.pairwise_lt_range ok.perm.symm] at c4
  have r2 := b_repr (sho_nats (xs := codeN xs) hcm (by omega)) (by omega) (by omega)
  have r3 := b_repr (sho_nats (xs := xs) hxm (by omega)) (by omega) (by omega)
  have bt2 : blt .tuple [.list ((cI (codeN xs)).map .int)] = some (.v (dN (codeN xs))) := rfl
  simp only [dInts] at *
  simp [c3, c4, r2, r3, bt2, c_ne, eS, -seqQ_nx]
  rw [seqQ_nx]
  -- turned
  have pt := pm.turn
  have htl := turnN_len xs
  have okt : okO (turnN xs) := ⟨by rw [htl]; exact pt.p, by omega, by omega⟩
  have c5 := f_turned (W := W) (k := k + 5) (st := s2) h.turned ok
  have c6 := f_turned (W := W) (k := k + 5) (st := s2) h.turned okt
  rw [turn_turn2 pm] at c6
  have c7 := f_falls (W := W) (k := k + 5) (st := s2) h.falls okt
  have htm : ∀ y ∈ turnN xs, y < 11 := fun y hy => by have := okt.lt hy; omega
  have r4 := b_repr (sho_nats (xs := turnN xs) htm (by omega)) (by omega) (by omega)
  have bt3 : blt .tuple [.list ((cI (turnN xs)).map .int)] = some (.v (dN (turnN xs))) := rfl
  have fI : ∀ ys : List Nat, flat (.tuple ((cI ys).map .int)) = true := fun ys => fl_ints (xs := cI ys)
  have fE : ∀ ys zs : List Nat, PyData.eqv (.tuple ((cI ys).map .int)) (.tuple ((cI zs).map .int)) = decide (cI ys = cI zs) := fun ys zs => eqv_ints (xs := cI ys) (ys := cI zs)
  simp only [dInts] at *
  simp [c5, -seqQ_nx]
  rw [seqQ_nx]
  simp [r4, hrm, -seqQ_nx]
  rw [show rangeL 0 xs.length = (List.range xs.length).map fun i : Nat => PyData.int (i : Int) by simp [rangeL]]
  refine wp_comp (e := fun i : Nat => PyData.int (i : Int)) (f := fun i : Nat => PyData.int (posN xs i : Nat)) (fun i hi => ?_) ?_
  · have hm : i ∈ xs := ok.perm.mem_iff.mpr hi
    have := idx_dN hm
    simp only [dInts] at this
    simp [this]
  refine ⟨by simp only [List.length_map, List.length_range, maxLen]; omega, ?_⟩
  rw [show (List.range xs.length).map (fun i : Nat => PyData.int (posN xs i : Nat)) = (cI (turnN xs)).map .int by simp [turnN, cI, Function.comp_def]]
  have hlf := turn_inv pm
  simp [bt3, r4, c6, c7, c_ne, eS, fI, fE, cast_eqv, hlf, -seqQ_nx]
  rw [seqQ_nx]
  -- a drawn code
  simp [hrm, -seqQ_nx]
  refine wp_mapI (fun i out s => ∃ cs : List Nat, out = (cI cs).map .int ∧ cs.length = i ∧ (∀ j c, cs[j]? = some c → c + j < xs.length) ∧ PotAt n (B + 20 + i) s ∧ s.length = st.length) ⟨[], rfl, rfl, fun j c h => by simp at h, hp2.mono (by omega), by omega⟩ ?_ ?_
  · rintro i d out s hd ⟨cs, rfl, hcs, hj, hps, hls⟩
    obtain ⟨hlt, rfl⟩ := rgN hd
    simp
    refine f_take h.u_law_take (by omega) (bd_of (by omega) (by omega)) hps (by omega) fun v s3 v1 v2 hp3 hl3 => ?_
    obtain ⟨c, rfl⟩ := Int.eq_ofNat_of_zero_le v1
    refine ⟨cs ++ [c], by simp [cI], by simp [hcs], fun j c' hj' => ?_, hp3, hl3.trans hls⟩
    by_cases hjl : j < cs.length
    · rw [List.getElem?_append_left hjl] at hj'
      exact hj j c' hj'
    · rw [List.getElem?_append_right (by omega)] at hj'
      have : j - cs.length = 0 := by
        apply Classical.byContradiction
        intro z
        obtain ⟨w, hw⟩ : ∃ w, j - cs.length = w + 1 := ⟨j - cs.length - 1, by omega⟩
        rw [hw] at hj'
        simp at hj'
      rw [this] at hj'
      simp at hj'
      subst hj'
      omega
  rintro out s3 ⟨cs, rfl, hcs, hj, hp3, hl3⟩
  rw [rangeL_len] at hcs hp3
  have okc2 : okK cs := ⟨okC_at rfl fun i c hc => by rw [hcs]; exact hj i c hc, by omega, by omega⟩
  have hcs11 : ∀ y ∈ cs, y < 11 := fun y hy => by
    obtain ⟨i, hi, rfl⟩ := List.getElem_of_mem hy
    have := hj i _ (List.getElem?_eq_getElem hi)
    omega
  have okc3 : okC (List.range cs.length).length cs := by rw [List.length_range]; exact okc2.c
  have dp := dec_perm cs (List.range cs.length) okc3
  have dl : (decN (List.range cs.length) cs).length = cs.length := by rw [dp.length_eq, List.length_range]
  have oky : okO (decN (List.range cs.length) cs) := ⟨by rw [dl]; exact dp, by omega, by omega⟩
  have cy := code_dec cs (List.range cs.length) List.pairwise_lt_range okc3
  have c8 := f_order_of (W := W) (k := k + 8) (st := s3) h.order_of okc2
  have c9 := f_code (W := W) (k := k + 5) (st := s3) h.code oky
  have c10 := f_falls (W := W) (k := k + 5) (st := s3) h.falls oky
  have hin := codeN_sum (decN (List.range cs.length) cs)
  rw [cy] at c9 hin
  rw [← flN_inv] at hin
  generalize decN (List.range cs.length) cs = ys at *
  have bs := b_sumT cs
  simp only [dN, dInts] at c8 c9 c10 bs
  have bt4 : blt .tuple [.list ((cI cs).map .int)] = some (.v (.tuple ((cI cs).map .int))) := rfl
  refine ⟨by simp only [List.length_map, cI, maxLen]; omega, ?_⟩
  simp [bt4, -seqQ_nx]
  rw [seqQ_nx]
  simp [c8, c9, c10, bs, c_ne, fI, fE, cast_eqv, hin, -seqQ_nx]
  rw [seqQ_nx]
  -- the values looked at
  have mem10 : ∀ ys : List Nat, (∀ y ∈ ys, y < 11) → ∀ x ∈ cI ys, 0 ≤ x ∧ x ≤ 10 := fun ys hy x hx => by
    obtain ⟨y, hy', rfl⟩ := List.mem_map.mp hx
    have := hy y hy'
    omega
  have zI : ∀ ys : List Nat, (∀ y ∈ ys, y < 11) → ys.length ≤ 30 → okZ (.tuple ((cI ys).map .int)) := fun ys hy hl => okZ_ints (mem10 ys hy) (by simpa using hl)
  have zL : ∀ ys : List Nat, (∀ y ∈ ys, y < 11) → ys.length ≤ 30 → okZ (.list ((cI ys).map .int)) := fun ys hy hl => okZ_lints (mem10 ys hy) (by simpa using hl)
  have bl : ∀ ys : List Nat, blt .list [.tuple ((cI ys).map .int)] = some (.o ((cI ys).map .int)) := fun ys => rfl
  have hi1 : asInt? (some (.int 1)) = some (some 1) := ai_i (by omega) (by omega)
  have him1 : asInt? (some (.int (-1))) = some (some (-1)) := ai_i (by omega) (by omega)
  have sl1 : sl3 (.tuple ((cI xs).map .int)) (some (.int 1)) none = some (.v (.tuple ((cI (xs.drop 1)).map .int))) := by
    rw [sl_t hi1 ai_n, cut_drop (by omega)]
    simp [cI, List.map_drop]
  have ad1 : op2 .add (.tuple ((cI xs).map .int)) (.tuple [.int (xs.length : Int)]) = some (.v (.tuple ((cI (xs ++ [xs.length])).map .int))) := by
    rw [o_addT (by simp [maxLen]; omega)]
    simp [cI]
  have rp1 := o_rep (m := xs.length) lo (by omega)
  have rv1 : rev1 (.tuple ((cI xs).map .int)) = some (.v (.tuple ((cI xs.reverse).map .int))) := by simp [rev1, cI]
  have hr11 : rangeOf [.int 11] = some (rangeL 0 11) := rangeOf_nat (n := 11) (by omega)
  have e11 : PyData.tuple (rangeL 0 11) = .tuple ((cI (List.range 11)).map .int) := by rw [rangeL_cI]
  simp [bl, sl1, m1, ad1, rv1, rp1, hr11, -seqQ_nx]
  refine f_oddM h.u_law_odd hp3 (by omega) fun od s4 hod hp4 hl4 => ?_
  have m10 : 10 ≤ maxLen := by simp [maxLen]
  have hr4 : rangeOf [.int 4] = some (rangeL 0 4) := rangeOf_nat (n := 4) (by omega)
  simp [m10, hr4, -seqQ_nx]
  obtain ⟨V, hV⟩ : ∃ V : List D, [PyData.tuple (List.map PyData.int (cI xs)), PyData.list (List.map PyData.int (cI xs)), PyData.tuple (List.map PyData.int (cI xs.tail)), PyData.tuple (List.map PyData.int (cI (xs ++ [xs.length]))),
    PyData.tuple (List.map PyData.int (cI xs.reverse)), dN (List.replicate xs.length 0), PyData.none, PyData.tuple [], PyData.tuple (rangeL 0 11), od] = V := ⟨_, rfl⟩
  have hVl : V.length = 10 := by rw [← hV]; rfl
  have hVz : ∀ d ∈ V, okZ d := by
    intro d hd
    rw [← hV] at hd
    simp only [List.mem_cons, List.not_mem_nil, or_false] at hd
    rcases hd with rfl | rfl | rfl | rfl | rfl | rfl | rfl | rfl | rfl | rfl
    · exact zI xs hxm (by omega)
    · exact zL xs hxm (by omega)
    · exact zI xs.tail (fun y hy => hxm y (List.mem_of_mem_tail hy)) (by simp; omega)
    · exact zI (xs ++ [xs.length]) (fun y hy => by
        rcases List.mem_append.mp hy with hy | hy
        · exact hxm y hy
        · rw [List.mem_singleton] at hy; omega) (by simp; omega)
    · exact zI xs.reverse (fun y hy => hxm y (List.mem_reverse.mp hy)) (by simp; omega)
    · exact zI (List.replicate xs.length 0) (fun y hy => by
        have := List.eq_of_mem_replicate hy
        omega) (by simp; omega)
    · exact okZ_odd _ (by simp [oddL])
    · exact okZ_odd _ (by simp [oddL])
    · rw [e11]
      exact zI (List.range 11) (fun y hy => List.mem_range.mp hy) (by simp)
    · exact okZ_odd _ hod
  rw [hV]
  clear hV
  have hne : ∀ ys : List Nat, 1 ≤ ys.length → cI ys ≠ [] := fun ys hy e => by
    have := congrArg List.length e
    simp [cI] at this
    rw [this] at hy
    simp at hy
  refine wp_mapI (fun i out s => PotAt n (B + 40 + 5 * i) s ∧ s.length = st.length ∧ out.length = i ∧ ∀ d ∈ out, okZ d) ⟨hp4.mono (by omega), hl4.trans hl3, rfl, fun d hd => nomatch hd⟩ ?_ ?_
  · rintro i d out s hd ⟨hps, hls, hol, hout⟩
    have hi4 : i < 4 := (rgN hd).1
    simp
    refine bnt_nats (k := k + 7) h.u_law_bent (xs := cI xs) (hne xs lo) (by simpa using hi) (mem10 xs hxm) n _ s _ hps (by omega) fun d' s' hd' hps' hls' => ?_
    refine ⟨hps'.mono (by omega), hls'.trans hls, by simp [hol], fun e he => ?_⟩
    rcases he with he | he
    · exact hout e he
    · subst he; exact hd'
  rintro out s5 ⟨hp5, hl5, hol, hout⟩
  rw [rangeL_len] at hp5 hol
  have a2 : op2 .add (.list V) (.list out) = some (.o (V ++ out)) := by
    have : V.length + out.length ≤ maxLen := by simp only [maxLen]; omega
    simp [op2, this]
  have m4 : out.length ≤ maxLen := by simp only [maxLen]; omega
  have hcc : ∀ x : Str, (x == x) = true := fun x => by simp
  simp [a2, m4, -seqQ_nx]
  refine wp_loop (fun i ρ s => s = s5 ∧ ∃ z7 z8 z10 z11 : Option RV, ρ = [some (RV.v (dCell n)), some (RV.v (PyData.int ↑xs.length)), some (RV.v (PyData.tuple (List.map PyData.int (cI xs)))), some (RV.v (PyData.list (List.map dP (flN xs)))),
    some (RV.v (PyData.tuple (List.map PyData.int (cI (codeN xs))))), some (RV.v (PyData.tuple (List.map PyData.int (cI (turnN xs))))), some (RV.v (PyData.tuple (List.map PyData.int (cI cs)))), z7, z8, none, z10, z11, none, none, none, none, none, none, none]) ⟨rfl, none, none, none, none, rfl⟩ ?_ ?_
  · rintro i d ρ s hd ⟨rfl, z7, z8, z10, z11, rfl⟩
    have hz : okZ d := by
      have := List.mem_of_getElem? hd
      rcases List.mem_append.mp this with h1 | h1
      · exact hVz d h1
      · exact hout d h1
    have g1 := f_is_order_any (W := W) (k := k + 7) (st := s) h.is_order hz.e.v
    simp [-wE_and, -seqQ_nx]
    refine wE_isord (k := k + 10) h.u_law_is_order rfl hz.e.v ?_
    simp [-seqQ_nx]
    rw [seqQ_nx]
    simp [g1, rp_bool, c_ne, eS, -seqQ_nx]
    rw [seqQ_nx]
    cases hO : ordB d with
    | true => simp
    | false =>
      simp [m1, -seqQ_nx]
      rw [seqQ_nx]
      simp [m7, -seqQ_nx]
      rw [seqQ_nx]
      simp [m8, -seqQ_nx]
      rw [seqQ_nx]
      have hev : ∀ (ρ1 : Rho) (s : Sto), ρ1[7]? = some (some (.v d)) → ∀ n : Nat, n < 3 → evL (evF P W (k + 12)) l_u_law_right n ρ1 s = some (oexcD ("BadOrder" : Str) d) := fun ρ1 s hρ n hn => by
        have y1 := fun st : Sto => (rz_falls (W := W) (k := k + 1) hb h.falls hz.e.v hO).clo hb (by decide +kernel) (st := st)
        have y2 := fun st : Sto => (rz_code (W := W) (k := k + 1) hb h.code hz.e.v hO).clo hb (by decide +kernel) (st := st)
        have y3 := fun st : Sto => (rz_turned (W := W) (k := k + 1) hb h.turned hz.e.v hO).clo hb (by decide +kernel) (st := st)
        have e7 : (hideC ρ1)[7]? = some (some (.v d)) := by
          unfold hideC
          rw [List.getElem?_map, hρ]
          simp [purO, hz.p]
        have f1 : evEs (evF P W (k + 12)) (.cons false (.var 7) .nil) (hideC ρ1) [] = some ([d], []) := eq_of_wp (by simp [e7])
        unfold l_u_law_right
        have : n = 0 ∨ n = 1 ∨ n = 2 := by omega
        rcases this with rfl | rfl | rfl
        · exact evL_hit f1 (y1 [])
        · rw [evL_miss (by omega)]
          exact evL_hit f1 (y2 [])
        · rw [evL_miss (by omega), evL_miss (by omega)]
          exact evL_hit f1 (y3 [])
      have hcr := evF_cret (W := W) (k := k + 11) (st := s) h.u_law_caught.p (Oc.exc ("BadOrder" : Str) d)
      refine ⟨by simp [maxLen], ?_⟩
      simp [-seqQ_nx]
      rw [show [cloD 0, cloD 1, cloD 2] = (List.range 3).map cloD from rfl]
      refine wp_comp (e := cloD) (f := fun _ => excD "BadOrder" d) (fun i hi => ?_) ?_
      · have hi3 := List.mem_range.mp hi
        simp
        refine (wp_eq (cc_at (eq_of_wp (by simp)) (hev _ _ rfl i hi3) hcr)).mpr ?_
        simp [Oc.ct, Oc.bk]
      refine ⟨by simp [maxLen], ?_⟩
      rw [seqQ_nx]
      have hr := b_reprS hz.e.s (by omega) (by omega)
      have bT : blt .all [.list [.bool true, .bool true, .bool true]] = some (.v (.bool true)) := rfl
      have r3 : (List.range 3).map (fun _ => excD "BadOrder" d) = [excD "BadOrder" d, excD "BadOrder" d, excD "BadOrder" d] := rfl
      rw [r3]
      simp [wM_cons, wM_nil, hcO, hr, eS, bT, m3, c_eq, cast_eqv]
  rintro ρ s ⟨rfl, z7, z8, z10, z11, rfl⟩
  rw [seqQ_nx]
  clear hVz hVl V out a2 m4 hol hout
  -- codes
  have hcsl : cs.length ≤ 10 := by omega
  have ad2 : op2 .add (.tuple ((cI cs).map .int)) (.tuple [.int 1]) = some (.v (.tuple ((cI (cs ++ [1])).map .int))) := by
    rw [o_addT (by simp [maxLen]; omega)]
    simp [cI]
  have sl2 : sl3 (.tuple ((cI cs).map .int)) none (some (.int (-1))) = some (.v (.tuple ((cI cs.dropLast).map .int))) := by
    rw [sl_t ai_n him1, cut_last (by simp [cI]; omega)]
    simp [cI, List.map_dropLast]
  have ad3 : op2 .add (.tuple ((cI cs.dropLast).map .int)) (.tuple [.int 1]) = some (.v (.tuple ((cI (cs.dropLast ++ [1])).map .int))) := by
    rw [o_addT (by simp [maxLen]; omega)]
    simp [cI]
  have rp2 : op2 .mul (.tuple [.int 0]) (.int 11) = some (.v (dN (List.replicate 11 0))) := o_rep (m := 11) (by omega) (by omega)
  simp [bl, sl2, ad2, ad3, m1, rp2, -seqQ_nx]
  refine f_oddM h.u_law_odd hp5 (by omega) fun od2 s6 hod2 hp6 hl6 => ?_
  have m7' : 7 ≤ maxLen := by simp [maxLen]
  have hr3 : rangeOf [.int 3] = some (rangeL 0 3) := rangeOf_nat (n := 3) (by omega)
  simp [m7', hr3, -seqQ_nx]
  obtain ⟨V, hV⟩ : ∃ V : List D, [PyData.list (List.map PyData.int (cI cs)), PyData.tuple (List.map PyData.int (cI (cs ++ [1]))), PyData.tuple (List.map PyData.int (cI (cs.dropLast ++ [1]))), PyData.none, PyData.tuple [],
    dN [0, 0, 0, 0, 0, 0, 0, 0, 0, 0, 0], od2] = V := ⟨_, rfl⟩
  have hVl : V.length = 7 := by rw [← hV]; rfl
  have hVz : ∀ d ∈ V, okZ d := by
    intro d hd
    rw [← hV] at hd
    simp only [List.mem_cons, List.not_mem_nil, or_false] at hd
    have h1 : ∀ y ∈ [1], y < 11 := fun y hy => by rw [List.mem_singleton] at hy; omega
    rcases hd with rfl | rfl | rfl | rfl | rfl | rfl | rfl
    · exact zL cs hcs11 (by omega)
    · exact zI (cs ++ [1]) (fun y hy => by
        rcases List.mem_append.mp hy with hy | hy
        · exact hcs11 y hy
        · exact h1 y hy) (by simp; omega)
    · exact zI (cs.dropLast ++ [1]) (fun y hy => by
        rcases List.mem_append.mp hy with hy | hy
        · exact hcs11 y ((List.dropLast_sublist cs).subset hy)
        · exact h1 y hy) (by simp; omega)
    · exact okZ_odd _ (by simp [oddL])
    · exact okZ_odd _ (by simp [oddL])
    · exact zI [0, 0, 0, 0, 0, 0, 0, 0, 0, 0, 0] (by decide) (by simp)
    · exact okZ_odd _ hod2
  rw [hV]
  clear hV
  refine wp_mapI (fun i out s => PotAt n (B + 80 + 5 * i) s ∧ s.length = st.length ∧ out.length = i ∧ ∀ d ∈ out, okZ d) ⟨hp6.mono (by omega), hl6.trans hl5, rfl, fun d hd => nomatch hd⟩ ?_ ?_
  · rintro i d out s hd ⟨hps, hls, hol, hout⟩
    have hi4 : i < 3 := (rgN hd).1
    simp
    refine bnt_nats (k := k + 7) h.u_law_bent (xs := cI cs) (hne cs (by omega)) (by simpa [cI] using hcsl) (mem10 cs hcs11) n _ s _ hps (by omega) fun d' s' hd' hps' hls' => ?_
    refine ⟨hps'.mono (by omega), hls'.trans hls, by simp [hol], fun e he => ?_⟩
    rcases he with he | he
    · exact hout e he
    · subst he; exact hd'
  rintro out s7 ⟨hp7, hl7, hol, hout⟩
  rw [rangeL_len] at hp7 hol
  have a2 : op2 .add (.list V) (.list out) = some (.o (V ++ out)) := by
    have : V.length + out.length ≤ maxLen := by simp only [maxLen]; omega
    simp [op2, this]
  have m4 : out.length ≤ maxLen := by simp only [maxLen]; omega
  simp [a2, m4, -seqQ_nx]
  refine wp_loop (fun i ρ s => s = s7 ∧ ∃ z7 z9 : Option RV, ρ = [some (RV.v (dCell n)), some (RV.v (PyData.int ↑xs.length)), some (RV.v (PyData.tuple (List.map PyData.int (cI xs)))), some (RV.v (PyData.list (List.map dP (flN xs)))),
    some (RV.v (PyData.tuple (List.map PyData.int (cI (codeN xs))))), some (RV.v (PyData.tuple (List.map PyData.int (cI (turnN xs))))), some (RV.v (PyData.tuple (List.map PyData.int (cI cs)))), z7, z8, z9, z10, z11, none, none, none, none, none, none, none]) ⟨rfl, z7, none, rfl⟩ ?_ ?_
  · rintro i d ρ s hd ⟨rfl, z7, z9, rfl⟩
    have hz : okZ d := by
      have := List.mem_of_getElem? hd
      rcases List.mem_append.mp this with h1 | h1
      · exact hVz d h1
      · exact hout d h1
    have g1 := f_law_is_code (W := W) (k := k + 10) (st := s) h.u_law_is_code hz.e.v
    have hr := b_reprS hz.e.s (by omega) (by omega)
    have e7 : ∀ ρ1 : Rho, ρ1[7]? = some (some (.v d)) → evEs (evF P W (k + 12)) (.cons false (.var 7) .nil) (hideC ρ1) [] = some ([d], []) := fun ρ1 hρ => by
      have : (hideC ρ1)[7]? = some (some (.v d)) := by
        unfold hideC
        rw [List.getElem?_map, hρ]
        simp [purO, hz.p]
      exact eq_of_wp (by simp [this])
    have hev : ∀ (ρ1 : Rho) (s : Sto) (o : D), ρ1[7]? = some (some (.v d)) → evF P W (k + 12) (553 + 5 * B0) [d] [] = some (.v o, []) → evL (evF P W (k + 12)) l_u_law_right 3 ρ1 s = some o := fun ρ1 s o hρ he => by
      unfold l_u_law_right
      rw [evL_miss (by omega), evL_miss (by omega), evL_miss (by omega)]
      exact evL_hit (e7 ρ1 hρ) he
    cases hC : codB d with
    | true =>
      obtain ⟨ks, okk, rfl⟩ := codB_ok hC
      have ev := f_order_of (W := W) (k := k + 4) (st := []) h.order_of okk
      have ec := evF_val (W := W) (st := []) hb (by decide +kernel) ev
      have hcr := evF_cret (W := W) (k := k + 11) (st := s) h.u_law_caught.p (Oc.val (dN (decN (List.range ks.length) ks)))
      rw [hC] at g1
      simp [-seqQ_nx]
      refine (wp_eq (cc_at (eq_of_wp (by simp)) (hev _ _ _ rfl ec) hcr)).mpr ?_
      simp [Oc.ct, Oc.bk, -seqQ_nx]
      rw [seqQ_nx]
      have iN : isNone PyData.none = true := rfl
      have eB : PyData.eqv (.bool true) (.bool true) = true := rfl
      simp [cmp2, g1, iN, eB]
    | false =>
      have ec := (rz_order_of (W := W) (k := k + 4) hb h.order_of hz.e.v hC).clo hb (by decide +kernel) (st := [])
      have hcr := evF_cret (W := W) (k := k + 11) (st := s) h.u_law_caught.p (Oc.exc ("BadCode" : Str) d)
      rw [hC] at g1
      simp [-seqQ_nx]
      refine (wp_eq (cc_at (eq_of_wp (by simp)) (hev _ _ _ rfl ec) hcr)).mpr ?_
      simp [Oc.ct, Oc.bk, -seqQ_nx]
      rw [seqQ_nx]
      have iN : isNone (excD ("BadCode" : Str) d) = false := rfl
      have eB : PyData.eqv (.bool false) (.bool false) = true := rfl
      simp [cmp2, g1, hr, eS, hcC, iN, eB]
  rintro ρ s ⟨rfl, z7, z9, rfl⟩
  have hpu := hp7.pu
  rw [List.all_eq_true] at hpu
  rw [seqQ_nx]
  simp
  exact ⟨hl7, rfl, hpu, q s (hp7.mono (by omega)) hl7⟩

-- FAMILY 5
-- AHEAD _eqv
-- AHEAD _g_cut
-- AHEAD _g_sll
-- USE _g_rng
-- USE _repr_math
-- USE _g_bool
-- USE _g_sortI
-- USE _g_inl0
-- USE _g_some
-- USE _g_isint5
-- USE _g_val
-- USE _g_shown
-- USE _g_bent
-- USE _g_bent2
-- USE _g_order
-- USE _g_order2
-- USE _g_while
-- USE _g_order3
-- USE _g_order4
-- USE _k46_b
-- USE _k46_d
-- USE _g_bruhat
-- USE _g_code
-- USE _g_lorder
-- USE _g_oko
-- USE _g_exc
-- USE _g_bent3
-- USE _g_exc2
-- USE _k40_a
-- USE _k40_b
-- USE _k40_c
-- USE _k40_d
-- USE _g_clo
-- USE _k40_e
-- USE _k40_f
theorem progHi : ∀ f, B0 ≤ f → prog f = none := by
  intro f hf
  have h1 : ∀ p ∈ progL, p.1 < B0 := by decide +kernel
  have key : ∀ l : List (Nat × FD), (∀ p ∈ l, p.1 < B0) → l.lookup f = none := fun l => by
    induction l with
    | nil => exact fun _ => rfl
    | cons p r ih =>
      intro h
      have hp := h p (List.mem_cons_self ..)
      have hne : (f == p.1) = false := by
        rw [beq_eq_false_iff_ne]
        omega
      obtain ⟨a, b⟩ := p
      rw [List.lookup_cons, hne]
      exact ih fun q hq => h q (List.mem_cons_of_mem _ hq)
  exact key progL h1
theorem pure_law : ∀ ns : List Int, ns.length ≤ 63 → ∃ st', evSs (evF prog 1000 17) 1000 b_law (initE 4 [.list (ns.map .int)]) [] = some (.rt (.v (.bool true)) st') := by
  intro ns hn
  suffices h : wp (evSs (evF prog 1000 17) 1000 b_law (initE 4 [.list (ns.map .int)]) []) (fun f => ∃ st', f = .rt (.v (.bool true)) st') by
    obtain ⟨_, e, st', rfl⟩ := h
    exact ⟨st', e⟩
  obtain ⟨m, hm, hc⟩ := f_cells (W := 1000) (k := 16) (st := []) h_u_law_cells (n := 3) (ns := ns) (by omega) (by omega)
  simp [b_law, hc, -seqQ_nx]
  refine wp_loop (fun i ρ st => st.all purs = true ∧ ∃ y z : Option RV, ρ = [some (RV.v (.list (ns.map .int))), y, z, none]) ⟨rfl, none, none, rfl⟩ ?_ ?_
  · rintro i d ρ st hd ⟨hpu, y, z, rfl⟩
    obtain ⟨p, hp, rfl⟩ := map_at hd
    obtain ⟨ds, hds, ep⟩ := f_pot (W := 1000) (k := 16) (st := st) h_u_law_pot (ns := ns) (p := p) (by
      have := List.mem_of_getElem? hp
      rw [List.mem_range] at this
      omega)
    simp [turnF, ep, -seqQ_nx]
    rw [seqQ_nx]
    simp [-seqQ_nx]
    rw [seqQ_nx]
    have hr5 : rangeOf [.int 8] = some (rangeL 0 8) := rangeOf_nat (n := 8) (by omega)
    simp [hr5, -seqQ_nx]
    refine wp_mapI (fun i out s => PotAt st.length (1000 * i) s ∧ out = List.replicate i (.bool true)) ⟨PotAt.new hds hpu, rfl⟩ ?_ ?_
    · rintro i' d' out s hd' ⟨hpi, rfl⟩
      have hi4 : i' < 8 := (rgN hd').1
      simp
      refine f_right40 (k := 4) progHi h_u_law_right hpi (by omega) fun s' hs' _ => ?_
      exact ⟨hs'.mono (by omega), by rw [List.replicate_succ']; rfl⟩
    · rintro out s ⟨hpi, rfl⟩
      have e4 : (rangeL 0 8).length = 8 := by simp [rangeL]
      have ea : blt .all [.list [.bool true, .bool true, .bool true, .bool true, .bool true, .bool true, .bool true, .bool true]] = some (.v (.bool true)) := rfl
      have hm4 : 8 ≤ maxLen := by simp [maxLen]
      rw [e4] at hpi
      rw [e4]
      have hpu2 := hpi.pu
      rw [List.all_eq_true] at hpu2
      simp only [d_o, wEs_nil, wp_some]
      refine ⟨by rw [List.length_replicate]; exact hm4, ?_⟩
      simp [ea]
      exact hpu2
  · rintro ρ st ⟨hpu, y, z, rfl⟩
    simp

end
end Ev.Lw
set_option maxHeartbeats 0
open PySem PySem.W PySem.Calls PyProof.Rows
theorem PySem.Challenge.cw_everyrungdown_k40_whole_orders_falls_and_holds : PySem.Challenge.rw_everyrungdown_k40_whole_orders_falls_and.Holds := by
  w_on; o_law
  refine HandSHeadRun.head_any (r := OpenLaw.row PySem.Challenge.rw_everyrungdown_k40_whole_orders_falls_and) (q := view (OpenLaw.row PySem.Challenge.rw_everyrungdown_k40_whole_orders_falls_and).prog [35]) (H := Ev.Lw.hk) (ob := Ev.Lw.ob) (M := 4000) (loose := Ev.Lw.loose) (d := HandSHeadRun.topDef (OpenLaw.row PySem.Challenge.rw_everyrungdown_k40_whole_orders_falls_and).prog 35) (kwd := []) Ev.Lw.ob_eq
    (by kernel_rfl) (fun s => by kernel_rfl) Ev.Lw.run (by kernel_rfl) (by kernel_rfl) (by kernel_rfl) (by rfl) (by first | assumption | decide +kernel) (by decide +kernel) ⟨rfl, rfl, rfl, rfl, rfl, by decide +kernel⟩ ?hw ?hc
  case hw => w_witness2
  case hc =>
    refine Ev.walk_G (l := PySem.Challenge.rw_everyrungdown_k40_whole_orders_falls_and) (n := 63) (k := 18) (x := "script") rfl (by decide) (by kernel_rfl) ⟨rfl, by decide, by decide⟩ ?F
    intro w mg f h Y hn hm
    obtain ⟨K, K2, hS⟩ := Y
    have hf : mg ("law" : PySem.Str) = some (.ref f) := by
      have e : (HandSHeadRun.topDef (OpenLaw.row PySem.Challenge.rw_everyrungdown_k40_whole_orders_falls_and).prog 35).name = ("law" : PySem.Str) := by kernel_rfl
      rw [← e]
      exact hm
    exact Ev.Lw.facts hS hn hf Ev.Lw.pure_law
