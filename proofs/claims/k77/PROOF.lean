import PyProof.Rows.All
import Wide.All
import OpenK.AllK
import Wide.FinOn
import KE.DataEq
import KE.SortData
import HandS.ForMost
import HandS.Flow
import HandS.Wide
import HandS.IsInst
import HandS.TupAny
import HandS.TupMul
import HandS.Star
import HandS.Zip
import HandS.Style
import HandS.Conv
import PyProof.Rows.SumAny
import HandS.List
import HandS.SortInts
import HandS.Defaults
import HandS.Iter
import KE.GoesMore
import HandS.SetFor
import HandS.TupSets
import HandS.Strs
import KE.DataFind
import HandS.Words
import HandS.Ends
import HandS.HeadEnd
import HandS.HeadHook2
import HandS.Head0
import HandS.Head1
import HandS.Head2
import HandS.HeadHook1
import HandS.More
import HandS.WordsExc
import KE.KStateDown
import Lean
import PySem.Challenge.RW_everyrungdown_k77_whole_pruned_chosen_an
set_option Elab.async false
set_option linter.all false
set_option maxRecDepth 100000
set_option Elab.async false
set_option linter.all false
set_option maxRecDepth 100000
/-! The pure evaluator: data trees, slots that own a list, shared cells. -/
namespace Ev
open PySem

abbrev D := PyData
/-- a value at rest: plain data, or a list that this slot alone holds -/
inductive RV where
  | v (d : D)
  | o (ds : List D)
def RV.d : RV → D
  | .v d => d
  | .o ds => .list ds
abbrev Sto := List (List D)
abbrev Rho := List (Option RV)

inductive Op2 | add | sub | mul | fdiv | mod | pow
  deriving DecidableEq
inductive Cm | eq | ne | lt | le | gt | ge | isin | notin | is | isnot
  deriving DecidableEq
inductive Ty | int | bool | str | tup | lst
  deriving DecidableEq
inductive Bl | len | abs | max2 | min2 | int | str | repr | tuple | list | sorted | sum | all | any | max1 | min1
  deriving DecidableEq
inductive Mt | index | count | join | split
  deriving DecidableEq

mutual
inductive Tg
  | nm (i : Nat)
  | tp (ts : Tgs)
inductive Tgs
  | nil
  | cons (t : Tg) (r : Tgs)
end

mutual
inductive CE
  | var (i : Nat)
  | peek (i : Nat)
  | con (d : D)
  | gl (x : Str) (d : D)
  | tup (es : CEs)
  | lst (es : CEs)
  | bin (o : Op2) (a b : CE)
  | neg (a : CE)
  | cmp (o : Cm) (a b : CE)
  | chain (o p : Cm) (a b c : CE)
  | and (a b : CE)
  | or (a b : CE)
  | one (a : CE)
  | not (a : CE)
  | ite (c a b : CE)
  | sub (a i : CE)
  | sl (a : CE) (lo hi : CEo)
  | rev (a : CE)
  | call (f : Nat) (es : CEs)
  | callk (f : Nat) (es : CEs) (perm : List Nat)
  | blt (b : Bl) (es : CEs)
  | isi (t : Ty) (a : CE)
  | meth (m : Mt) (a : CE) (es : CEs)
  | lrng (es : CEs)
  | trng (es : CEs)
  | comp (own : List Nat) (tg : Tg) (it : CI) (ifs : CEs) (elt : CE)
  | comp2 (own : List Nat) (tg : Tg) (it : CI) (ifs : CEs) (tg1 : Tg) (it1 : CI) (ifs1 : CEs) (elt : CE)
  | cnt (a x : CE)
  | idx (a x : CE)
  | sset (a : CE)
  | dlit (ks : List Str) (es : CEs)
  | dlitI (ks : List Nat) (es : CEs)
  | dget (a k z : CE)
inductive CEs
  | nil
  | cons (star : Bool) (e : CE) (r : CEs)
inductive CEo
  | none
  | some (e : CE)
inductive CI
  | seq (e : CE)
  | rng (es : CEs)
  | enum (e : CE)
  | zip (a b : CE)
end

/-! ### the steps on data -/
def big (i : Int) : Bool := decide (i.natAbs < 2 ^ 4000)
def maxLen : Nat := 100000

def op2 : Op2 → D → D → Option RV
  | .add, .int i, .int j => some (.v (.int (i + j)))
  | .add, .tuple a, .tuple b => if a.length + b.length ≤ maxLen then some (.v (.tuple (a ++ b))) else none
  | .add, .list a, .list b => if a.length + b.length ≤ maxLen then some (.o (a ++ b)) else none
  | .add, .str a, .str b => if a.length + b.length ≤ maxLen then some (.v (.str (a ++ b))) else none
  | .sub, .int i, .int j => some (.v (.int (i - j)))
  | .mul, .int i, .int j => if big i && big j then some (.v (.int (i * j))) else none
  | .mul, .tuple a, .int j => if decide (1 ≤ j) && decide (j ≤ 1000) && decide (a.length ≤ 100) && !a.isEmpty then some (.v (.tuple (List.replicate j.toNat a).flatten)) else none
  | .fdiv, .int i, .int j => if decide (0 < j) && big j then some (.v (.int (i / j))) else none
  | .mod, .int i, .int j => if decide (0 < j) then some (.v (.int (i % j))) else none
  | .pow, .int i, .int j => if decide (0 ≤ j) && decide (j ≤ 1000) && decide (i.natAbs < 2 ^ 1000) then some (.v (.int (i ^ j.toNat))) else none
  | _, _, _ => none

def isNone : D → Bool
  | .none => true
  | _ => false

/-- no dict within, and not too deep -/
def shal (n : Nat) (d : D) : Bool := d.plain && decide (d.depth ≤ n)
def shalAll (n : Nat) (xs : List D) : Bool := PyData.plainAll xs && decide (PyData.depthAll xs ≤ n)
def flat (d : D) : Bool := shal 20 d

/-- whether data are alike enough for <, and which is less -/
def lt2 (a b : D) : Option Bool :=
  match a, b with
  | .int i, .int j => some (decide (i < j))
  | .str x, .str y => some (decide (x.cps.toList < y.cps.toList))
  | .tuple x, .tuple y => if PySem.W.alike (.tuple x) (.tuple y) && flat (.tuple x) && flat (.tuple y) then some (PySem.W.dataLt (.tuple x) (.tuple y)) else none
  | _, _ => none

def cmp2 : Cm → D → D → Option D
  | .eq, a, b => if flat a && flat b then some (.bool (PyData.eqv a b)) else none
  | .ne, a, b => if flat a && flat b then some (.bool (!PyData.eqv a b)) else none
  | .lt, .int i, .int j => some (.bool (decide (i < j)))
  | .le, .int i, .int j => some (.bool (decide (i ≤ j)))
  | .gt, .int i, .int j => some (.bool (decide (j < i)))
  | .ge, .int i, .int j => some (.bool (decide (j ≤ i)))
  | .lt, .tuple x, .tuple y => (lt2 (.tuple x) (.tuple y)).map .bool
  | .isin, a, .tuple xs => if flat a && flat (.tuple xs) then some (.bool (xs.any fun z => PyData.eqv z a)) else none
  | .isin, a, .list xs => if flat a && flat (.list xs) then some (.bool (xs.any fun z => PyData.eqv z a)) else none
  | .notin, a, .tuple xs => if flat a && flat (.tuple xs) then some (.bool (!xs.any fun z => PyData.eqv z a)) else none
  | .notin, a, .list xs => if flat a && flat (.list xs) then some (.bool (!xs.any fun z => PyData.eqv z a)) else none
  | .is, a, .none => some (.bool (isNone a))
  | .isnot, a, .none => some (.bool (!isNone a))
  | _, _, _ => none

def truth : D → Option Bool
  | .none => some false
  | .bool b => some b
  | .int i => some (i != 0)
  | .tuple xs => some (!xs.isEmpty)
  | .list xs => some (!xs.isEmpty)
  | _ => none

/-- the keys of dicts: ints and texts -/
def kD : L2.Key → D
  | .inl i => .int i
  | .inr x => .str x
def kOf : D → Option L2.Key
  | .int i => some (.inl i)
  | .str x => some (.inr x)
  | _ => none
/-- what stands at a key in a dict -/
def dAt : List (D × D) → L2.Key → Option D
  | [], _ => none
  | (k, d) :: r, x => match kOf k with
    | some y => if y = x then some d else dAt r x
    | none => none
def sub2 : D → D → Option D
  | .tuple xs, .int i => L2.atI xs i
  | .list xs, .int i => L2.atI xs i
  | .dict kvs, .str x => dAt kvs (.inr x)
  | .dict kvs, .int i => dAt kvs (.inl i)
  | _, _ => none
def cut {α : Type} (xs : List α) (lo hi : Option Int) : List α :=
  (xs.drop (HT.sIx xs.length 0 lo)).take (HT.sIx xs.length xs.length hi - HT.sIx xs.length 0 lo)
def asInt? : Option D → Option (Option Int)
  | none => some none
  | some (.int i) => if decide (-(2 ^ 60) < i) && decide (i < 2 ^ 60) then some (some i) else none
  | _ => none
def sl3 (a : D) (lo hi : Option D) : Option RV :=
  match a, asInt? lo, asInt? hi with
  | .tuple xs, some l, some h => some (.v (.tuple (cut xs l h)))
  | .list xs, some l, some h => some (.o (cut xs l h))
  | _, _, _ => none
def rev1 : D → Option RV
  | .tuple xs => some (.v (.tuple xs.reverse))
  | .list xs => some (.o xs.reverse)
  | _ => none

def ints? : List D → Option (List Int)
  | [] => some []
  | .int i :: r => (ints? r).map (i :: ·)
  | _ => none
def bools? : List D → Option (List Bool)
  | [] => some []
  | .bool b :: r => (bools? r).map (b :: ·)
  | _ => none
def strs? : List D → Option (List Str)
  | [] => some []
  | .str x :: r => (strs? r).map (x :: ·)
  | _ => none

def insBy (le : D → D → Bool) (x : D) : List D → List D
  | [] => [x]
  | y :: r => if le x y then x :: y :: r else y :: insBy le x r
def sortBy (le : D → D → Bool) : List D → List D
  | [] => []
  | x :: r => insBy le x (sortBy le r)
def dLe (a b : D) : Bool := match a, b with
  | .int i, .int j => decide (i ≤ j)
  | a, b => !PySem.W.dataLt b a
def allAlike (xs : List D) : Bool := xs.all fun x => xs.all fun y => PySem.W.alike x y
def sortable (xs : List D) : Bool := (xs.all fun d => match d with | .tuple (_ :: _) => true | _ => false) || (xs.all fun d => match d with | .int _ => true | .str _ => true | _ => false)

def rangeL (lo : Int) (n : Nat) : List D := (List.range n).map fun i => .int (lo + (i : Nat))
def rangeStep (lo c : Int) (n : Nat) : List D := (List.range n).map fun i => .int (lo + (i : Nat) * c)
def small (i : Int) : Bool := decide (-(2 ^ 40) < i) && decide (i < 2 ^ 40)
/-- the items of range(..) -/
def rangeOf : List D → Option (List D)
  | [.int j] => if small j && decide (j ≤ maxLen) then some (rangeL 0 j.toNat) else none
  | [.int i, .int j] => if small i && small j && decide (j - i ≤ maxLen) then some (rangeL i (j - i).toNat) else none
  | [.int i, .int j, .int c] =>
    if decide (c ≠ 0) && decide (c.natAbs < 1073741824) && Builtin.Range.small i j c && decide ((Builtin.Range.rangeSize i j c).toNat ≤ maxLen) then
      some (rangeStep i c (Builtin.Range.rangeSize i j c).toNat)
    else none
  | _ => none

def scal : D → Bool
  | .none => true
  | .bool _ => true
  | .int _ => true
  | .str _ => true
  | _ => false
mutual
/-- no list within, no cell; dicts of plain values -/
def lfree : D → Bool
  | .none => true
  | .bool _ => true
  | .int _ => true
  | .str _ => true
  | .tuple xs => lfrees xs
  | .list _ => false
  | .dict kvs => kvs.all fun p => (kOf p.1).isSome && scal p.2
def lfrees : List D → Bool
  | [] => true
  | x :: r => lfree x && lfrees r
end
def rpOk (d : D) : Bool := flat d || (lfree d && decide (d.depth ≤ 20))
def blt : Bl → List D → Option RV
  | .len, [.tuple xs] => some (.v (.int xs.length))
  | .len, [.list xs] => some (.v (.int xs.length))
  | .len, [.str x] => if x.length ≤ maxLen then some (.v (.int x.length)) else none
  | .abs, [.int i] => some (.v (.int (if i < 0 then -i else i)))
  | .max2, [.int i, .int j] => some (.v (.int (if j > i then j else i)))
  | .min2, [.int i, .int j] => some (.v (.int (if j < i then j else i)))
  | .int, [.int i] => some (.v (.int i))
  | .int, [.bool b] => some (.v (.int (if b then 1 else 0)))
  | .str, [.int i] => if i.natAbs < 2 ^ 1900 then some (.v (.str (toString i))) else none
  | .repr, [d] => if rpOk d && d.showable && decide (d.shown.length ≤ maxLen) then some (.v (.str d.shown)) else none
  | .tuple, [.list xs] => some (.v (.tuple xs))
  | .tuple, [.tuple xs] => some (.v (.tuple xs))
  | .list, [.list xs] => some (.o xs)
  | .list, [.tuple xs] => some (.o xs)
  | .sorted, [.list xs] => if allAlike xs && sortable xs && shalAll 19 xs && decide (xs.length ≤ maxLen) then some (.o (sortBy dLe xs)) else none
  | .sorted, [.tuple xs] => if allAlike xs && sortable xs && shalAll 19 xs && decide (xs.length ≤ maxLen) then some (.o (sortBy dLe xs)) else none
  | .sum, [.list xs] => (ints? xs).map fun ns => .v (.int ns.sum)
  | .sum, [.tuple xs] => (ints? xs).map fun ns => .v (.int ns.sum)
  | .all, [.list xs] => (bools? xs).map fun bs => .v (.bool (bs.all id))
  | .any, [.list xs] => (bools? xs).map fun bs => .v (.bool (bs.any id))
  | _, _ => none

def isi : Ty → D → Option Bool
  | _, .dict ((.none, _) :: _) => none
  | .int, .int _ => some true
  | .int, .bool _ => some true
  | .bool, .bool _ => some true
  | .str, .str _ => some true
  | .tup, .tuple _ => some true
  | .lst, .list _ => some true
  | _, _ => some false

/-- how often, and where first -/
def cnt2 : D → D → Option D
  | .list xs, d => if shalAll 19 xs && flat d then some (.int (xs.countP fun y => PyData.eqv y d : Nat)) else none
  | .tuple xs, d => if shalAll 19 xs && flat d then some (.int (xs.countP fun y => PyData.eqv y d : Nat)) else none
  | _, _ => none
def idxI (k : Int) : List Int → Option Nat
  | [] => none
  | x :: r => if x = k then some 0 else (idxI k r).map (· + 1)
/-- where first: of ints in a list; of any data in a tuple -/
def idx2 : D → D → Option D
  | .tuple xs, d => if shalAll 19 xs && flat d then (xs.findIdx? fun y => PyData.eqv y d).map fun j => .int (j : Nat) else none
  | .list xs, .int k => match ints? xs with
    | some ns => (idxI k ns).map fun j => .int (j : Nat)
    | none => none
  | _, _ => none
/-- rising, each once -/
def uinsI (x : Int) : List Int → List Int
  | [] => [x]
  | y :: r => if x < y then x :: y :: r else if x = y then y :: r else y :: uinsI x r
def usort (xs : List Int) : List Int := xs.foldr uinsI []
/-- sorted(set(..)) -/
def sset1 : D → Option (List D)
  | .list xs => match ints? xs with
    | some ns => if ns.length < 60 then some ((usort ns).map .int) else none
    | none => none
  | .tuple xs => match ints? xs with
    | some ns => if ns.length < 60 then some ((usort ns).map .int) else none
    | none => none
  | _ => none
def dOf (ks : List L2.Key) (ds : List D) : D := .dict ((ks.zip ds).map fun p => (kD p.1, p.2))
/-- a dict of such keys -/
def isDk : D → Bool
  | .dict kvs => !kvs.isEmpty && kvs.all fun p => (kOf p.1).isSome
  | _ => false
/-- d.get(k, z) -/
def dget3 (d k z : D) : Option D := match d, kOf k with
  | .dict kvs, some x => if isDk (.dict kvs) then some ((dAt kvs x).getD z) else none
  | _, _ => none
/-- keys by slots: ints -/
def keysAt (ρ : Rho) : List Nat → Option (List L2.Key)
  | [] => some []
  | i :: r => match ρ[i]?, keysAt ρ r with
    | some (some (.v (.int a))), some ks => some (.inl a :: ks)
    | _, _ => none

def cellOf : D → Option Nat
  | .dict [(.none, .int n)] => some n.toNat
  | _ => none

/-- a cell is read where a list is asked for -/
def look (st : Sto) (d : D) : D :=
  match cellOf d with
  | some n => match st[n]? with | some ds => .list ds | none => d
  | none => d

/-! ### the evaluator -/
mutual
def bindTg : Tg → D → Rho → Option Rho
  | .nm i, d, ρ => some (ρ.set i (some (.v d)))
  | .tp ts, .tuple ds, ρ => bindTgs ts ds ρ
  | .tp _, _, _ => none
def bindTgs : Tgs → List D → Rho → Option Rho
  | .nil, [], ρ => some ρ
  | .cons t r, d :: ds, ρ => match bindTg t d ρ with
    | some ρ1 => bindTgs r ds ρ1
    | none => none
  | _, _, _ => none
end

mutual
def slotsOf : Tg → List Nat
  | .nm i => [i]
  | .tp ts => slotsOfs ts
def slotsOfs : Tgs → List Nat
  | .nil => []
  | .cons t r => slotsOf t ++ slotsOfs r
end
def noOwn : Option RV → Option RV
  | some (.o _) => none
  | y => y
/-- the lists that slots own are out of sight -/
def hideO (ρ : Rho) : Rho := ρ.map noOwn
def wipeE (ρ : Rho) : List Nat → Rho
  | [] => ρ
  | v :: vs => (wipeE ρ vs).set v none

/-- the items of a comprehension, one by one -/
def mapM (f : D → Sto → Option (List D × Sto)) : List D → Sto → Option (List D × Sto)
  | [], st => some ([], st)
  | x :: r, st => match f x st with
    | some (ys, st1) => match mapM f r st1 with
      | some (zs, st2) => some (ys ++ zs, st2)
      | none => none
    | none => none

abbrev FT := Nat → List D → Sto → Option (RV × Sto)

def permD (ds : List D) (perm : List Nat) : List D := perm.map fun i => ds.getD i .none

variable (F : FT)
mutual
def evE : CE → Rho → Sto → Option (RV × Sto)
  | .var i, ρ, st => match ρ[i]? with
    | some (some (.v d)) => some (.v d, st)
    | _ => none
  | .peek i, ρ, st => match ρ[i]? with
    | some (some (.o ds)) => some (.v (.list ds), st)
    | _ => none
  | .con d, _, st => some (.v d, st)
  | .gl _ d, _, st => some (.v d, st)
  | .tup es, ρ, st => match evEs es ρ st with
    | some (ds, st1) => if ds.length ≤ maxLen then some (.v (.tuple ds), st1) else none
    | none => none
  | .lst es, ρ, st => match evEs es ρ st with
    | some (ds, st1) => if ds.length ≤ maxLen then some (.o ds, st1) else none
    | none => none
  | .bin o a b, ρ, st => match evE a ρ st with
    | some (x, st1) => match evE b ρ st1 with
      | some (y, st2) => match op2 o x.d y.d with
        | some z => some (z, st2)
        | none => none
      | none => none
    | none => none
  | .neg a, ρ, st => match evE a ρ st with
    | some (.v (.int i), st1) => some (.v (.int (-i)), st1)
    | _ => none
  | .cmp o a b, ρ, st => match evE a ρ st with
    | some (x, st1) => match evE b ρ st1 with
      | some (y, st2) => match cmp2 o x.d y.d with
        | some z => some (.v z, st2)
        | none => none
      | none => none
    | none => none
  | .chain o p a b c, ρ, st => match evE a ρ st with
    | some (x, st1) => match evE b ρ st1 with
      | some (y, st2) => match cmp2 o x.d y.d with
        | some (.bool true) => match evE c ρ st2 with
          | some (z, st3) => match cmp2 p y.d z.d with
            | some r => some (.v r, st3)
            | none => none
          | none => none
        | some (.bool false) => some (.v (.bool false), st2)
        | _ => none
      | none => none
    | none => none
  | .and a b, ρ, st => match evE a ρ st with
    | some (x, st1) => match truth x.d with
      | some true => evE b ρ st1
      | some false => some (x, st1)
      | none => none
    | none => none
  | .or a b, ρ, st => match evE a ρ st with
    | some (x, st1) => match truth x.d with
      | some true => some (x, st1)
      | some false => evE b ρ st1
      | none => none
    | none => none
  | .one a, ρ, st => evE a ρ st
  | .not a, ρ, st => match evE a ρ st with
    | some (x, st1) => match truth x.d with
      | some b => some (.v (.bool (!b)), st1)
      | none => none
    | none => none
  | .ite c a b, ρ, st => match evE c ρ st with
    | some (x, st1) => match truth x.d with
      | some true => evE a ρ st1
      | some false => evE b ρ st1
      | none => none
    | none => none
  | .sub a i, ρ, st => match evE a ρ st with
    | some (x, st1) => match evE i ρ st1 with
      | some (y, st2) => match sub2 (look st2 x.d) y.d with
        | some z => some (.v z, st2)
        | none => none
      | none => none
    | none => none
  | .sl a lo hi, ρ, st => match evE a ρ st with
    | some (x, st1) => match evO lo ρ st1 with
      | some (l, st2) => match evO hi ρ st2 with
        | some (h, st3) => match sl3 x.d l h with
          | some z => some (z, st3)
          | none => none
        | none => none
      | none => none
    | none => none
  | .rev a, ρ, st => match evE a ρ st with
    | some (x, st1) => match rev1 x.d with
      | some z => some (z, st1)
      | none => none
    | none => none
  | .call f es, ρ, st => match evEs es ρ st with
    | some (ds, st1) => F f ds st1
    | none => none
  | .callk f es perm, ρ, st => match evEs es ρ st with
    | some (ds, st1) => F f (permD ds perm) st1
    | none => none
  | .blt b es, ρ, st => match evEs es ρ st with
    | some (ds, st1) => match blt b ds with
      | some z => some (z, st1)
      | none => none
    | none => none
  | .isi t a, ρ, st => match evE a ρ st with
    | some (x, st1) => match isi t x.d with
      | some b => some (.v (.bool b), st1)
      | none => none
    | none => none
  | .meth _ _ _, _, _ => none
  | .lrng es, ρ, st => match evEs es ρ st with
    | some (ds, st1) => match rangeOf ds with
      | some z => some (.o z, st1)
      | none => none
    | none => none
  | .trng es, ρ, st => match evEs es ρ st with
    | some (ds, st1) => match rangeOf ds with
      | some z => some (.v (.tuple z), st1)
      | none => none
    | none => none
  | .comp own tg it ifs elt, ρ, st => match evI it ρ st with
    | some (ds, st1) => match mapM (fun d st => match bindTg tg d (wipeE ρ own) with
        | some ρ1 => match evIfs ifs ρ1 st with
          | some (true, st2) => match evE elt ρ1 st2 with
            | some (y, st3) => some ([y.d], st3)
            | none => none
          | some (false, st2) => some ([], st2)
          | none => none
        | none => none) ds st1 with
      | some (ys, st2) => if ys.length ≤ maxLen then some (.o ys, st2) else none
      | none => none
    | none => none
  | .comp2 own tg it ifs tg1 it1 ifs1 elt, ρ, st => match evI it ρ st with
    | some (ds, st1) => match mapM (fun d st => match bindTg tg d (wipeE (hideO ρ) own) with
        | some ρ1 => match evIfs ifs ρ1 st with
          | some (true, st2) => match evI it1 ρ1 st2 with
            | some (es, st3) => mapM (fun e st => match bindTg tg1 e (wipeE ρ1 (slotsOf tg1)) with
                | some ρ2 => match evIfs ifs1 ρ2 st with
                  | some (true, st2) => match evE elt ρ2 st2 with
                    | some (y, st3) => some ([y.d], st3)
                    | none => none
                  | some (false, st2) => some ([], st2)
                  | none => none
                | none => none) es st3
            | none => none
          | some (false, st2) => some ([], st2)
          | none => none
        | none => none) ds st1 with
      | some (ys, st2) => if ys.length ≤ maxLen then some (.o ys, st2) else none
      | none => none
    | none => none
  | .cnt a x, ρ, st => match evE a ρ st with
    | some (y, st1) => match evE x ρ st1 with
      | some (z, st2) => match cnt2 y.d z.d with
        | some d => some (.v d, st2)
        | none => none
      | none => none
    | none => none
  | .idx a x, ρ, st => match evE a ρ st with
    | some (y, st1) => match evE x ρ st1 with
      | some (z, st2) => match idx2 y.d z.d with
        | some d => some (.v d, st2)
        | none => none
      | none => none
    | none => none
  | .sset a, ρ, st => match evE a ρ st with
    | some (y, st1) => match sset1 y.d with
      | some ds => some (.o ds, st1)
      | none => none
    | none => none
  | .dlit ks es, ρ, st => match evEs es ρ st with
    | some (ds, st1) => if ks.length = ds.length ∧ ks.Nodup ∧ ks.length ≤ 15 then some (.v (dOf (ks.map .inr) ds), st1) else none
    | none => none
  | .dlitI is es, ρ, st => match keysAt ρ is, evEs es ρ st with
    | some ks, some (ds, st1) => if ks ≠ [] ∧ ks.length = ds.length ∧ ks.Nodup ∧ ks.length ≤ 15 then some (.v (dOf ks ds), st1) else none
    | _, _ => none
  | .dget a k z, ρ, st => match evE a ρ st with
    | some (x, st1) => match evE k ρ st1 with
      | some (y, st2) => match evE z ρ st2 with
        | some (w, st3) => match dget3 x.d y.d w.d with
          | some d => some (.v d, st3)
          | none => none
        | none => none
      | none => none
    | none => none
def evEs : CEs → Rho → Sto → Option (List D × Sto)
  | .nil, _, st => some ([], st)
  | .cons s e r, ρ, st => match evE e ρ st with
    | some (x, st1) => match evEs r ρ st1 with
      | some (ds, st2) => match s, x.d with
        | false, d => some (d :: ds, st2)
        | true, .tuple xs => some (xs ++ ds, st2)
        | true, .list xs => some (xs ++ ds, st2)
        | true, _ => none
      | none => none
    | none => none
def evIfs : CEs → Rho → Sto → Option (Bool × Sto)
  | .nil, _, st => some (true, st)
  | .cons _ e r, ρ, st => match evE e ρ st with
    | some (x, st1) => match truth x.d with
      | some true => evIfs r ρ st1
      | some false => some (false, st1)
      | none => none
    | none => none
def evO : CEo → Rho → Sto → Option (Option D × Sto)
  | .none, _, st => some (none, st)
  | .some e, ρ, st => match evE e ρ st with
    | some (x, st1) => some (some x.d, st1)
    | none => none
/-- what is walked -/
def evI : CI → Rho → Sto → Option (List D × Sto)
  | .seq e, ρ, st => match evE e ρ st with
    | some (x, st1) => match x.d with
      | .list ds => some (ds, st1)
      | .tuple ds => some (ds, st1)
      | _ => none
    | none => none
  | .rng es, ρ, st => match evEs es ρ st with
    | some (ds, st1) => match rangeOf ds with
      | some z => some (z, st1)
      | none => none
    | none => none
  | .enum e, ρ, st => match evE e ρ st with
    | some (x, st1) => match x.d with
      | .list ds => some (ds.zipIdx.map (fun p => .tuple [.int (p.2 : Nat), p.1]), st1)
      | .tuple ds => some (ds.zipIdx.map (fun p => .tuple [.int (p.2 : Nat), p.1]), st1)
      | _ => none
    | none => none
  | .zip a b, ρ, st => match evE a ρ st with
    | some (x, st1) => match evE b ρ st1 with
      | some (y, st2) => match x.d, y.d with
        | .tuple xs, .tuple ys => some ((xs.zip ys).map (fun p => .tuple [p.1, p.2]), st2)
        | .list xs, .list ys => some ((xs.zip ys).map (fun p => .tuple [p.1, p.2]), st2)
        | _, _ => none
      | none => none
    | none => none
end

/-! ### statements -/
mutual
inductive CS
  | expr (e : CE)
  | asg (t : Tg) (e : CE)
  | asgO (i : Nat) (e : CE)
  | par (is : List (Nat × Bool)) (es : CEs)
  | setS (sl : Nat) (ix e : CE)            -- x[ix] = e, x a list that the slot owns
  | setS2 (sl : Nat) (i1 i2 e1 e2 : CE)       -- x[i1], x[i2] = e1, e2
  | setC (sl : Nat) (ix e : CE)             -- x[ix] = e, x a cell
  | app (sl : Nat) (e : CE)
  | ext (sl : Nat) (e : CE)
  | popAt (sl : Nat) (e : CE)
  | appPop (to sl : Nat) (e : CE)
  | ret (e : CE)
  | retO (i : Nat)
  | ite (c : CE) (a b : CSs)
  | for_ (t : Tg) (it : CI) (b : CSs)
  | while_ (c : CE) (b : CSs)
  | brk
  | cont
  | bad
  | freeze (i : Nat)
  | mkcell (i : Nat)
inductive CSs
  | nil
  | cons (s : CS) (r : CSs)
end
inductive Fl where
  | nx (ρ : Rho) (st : Sto)
  | rt (r : RV) (st : Sto)
  | bk (ρ : Rho) (st : Sto)
  | ct (ρ : Rho) (st : Sto)

def bindSlots : List Nat → List D → Rho → Option Rho
  | [], [], ρ => some ρ
  | i :: is, d :: ds, ρ => bindSlots is ds (ρ.set i (some (.v d)))
  | _, _, _ => none

def loop (f : D → Rho → Sto → Option Fl) : List D → Rho → Sto → Option Fl
  | [], ρ, st => some (.nx ρ st)
  | x :: r, ρ, st => match f x ρ st with
    | some (.nx ρ1 st1) => loop f r ρ1 st1
    | some (.ct ρ1 st1) => loop f r ρ1 st1
    | some (.bk ρ1 st1) => some (.nx ρ1 st1)
    | some (.rt v st1) => some (.rt v st1)
    | none => none
def loopW (c : Rho → Sto → Option (Bool × Sto)) (f : Rho → Sto → Option Fl) : Nat → Rho → Sto → Option Fl
  | 0, _, _ => none
  | n + 1, ρ, st => match c ρ st with
    | some (false, st1) => some (.nx ρ st1)
    | some (true, st1) => match f ρ st1 with
      | some (.nx ρ1 st1) => loopW c f n ρ1 st1
      | some (.ct ρ1 st1) => loopW c f n ρ1 st1
      | some (.bk ρ1 st1) => some (.nx ρ1 st1)
      | some (.rt v st1) => some (.rt v st1)
      | none => none
    | none => none

def setAt (ds : List D) (i : D) (x : D) : Option (List D) :=
  match i with
  | .int k => (L2.ixN ds.length k).map fun p => ds.set p x
  | _ => none

mutual
def evS (W : Nat) : CS → Rho → Sto → Option Fl
  | .expr e, ρ, st => match evE F e ρ st with
    | some (_, st1) => some (.nx ρ st1)
    | none => none
  | .asgO i e, ρ, st => match evE F e ρ st with
    | some (.o ds, st1) => some (.nx (ρ.set i (some (.o ds))) st1)
    | _ => none
  | .asg t e, ρ, st => match evE F e ρ st with
    | some (x, st1) => match bindTg t x.d ρ with
      | some ρ1 => some (.nx ρ1 st1)
      | none => none
    | none => none
  | .par is es, ρ, st => match evPar is es ρ ρ st with
    | some (ρ1, st1) => some (.nx ρ1 st1)
    | none => none
  | .setS i ix e, ρ, st => match evE F e ρ st with
    | some (x, st1) => match evE F ix ρ st1 with
      | some (k, st2) => match ρ[i]? with
        | some (some (.o ds)) => match setAt ds k.d x.d with
          | some ds1 => some (.nx (ρ.set i (some (.o ds1))) st2)
          | none => none
        | _ => none
      | none => none
    | none => none
  | .setS2 i i1 i2 e1 e2, ρ, st => match evE F e1 ρ st with
    | some (x1, st1) => match evE F e2 ρ st1 with
      | some (x2, st2) => match evE F i1 ρ st2 with
        | some (k1, st3) => match ρ[i]? with
          | some (some (.o ds)) => match setAt ds k1.d x1.d with
            | some ds1 => match evE F i2 (ρ.set i (some (.o ds1))) st3 with
              | some (k2, st4) => match setAt ds1 k2.d x2.d with
                | some ds2 => some (.nx (ρ.set i (some (.o ds2))) st4)
                | none => none
              | none => none
            | none => none
          | _ => none
        | none => none
      | none => none
    | none => none
  | .setC i ix e, ρ, st => match evE F e ρ st with
    | some (x, st1) => match evE F ix ρ st1 with
      | some (k, st2) => match ρ[i]? with
        | some (some (.v c)) => match cellOf c with
          | some n => match st2[n]? with
            | some ds => match setAt ds k.d x.d with
              | some ds1 => some (.nx ρ (st2.set n ds1))
              | none => none
            | none => none
          | none => none
        | _ => none
      | none => none
    | none => none
  | .app i e, ρ, st => match evE F e ρ st with
    | some (x, st1) => match ρ[i]? with
      | some (some (.o ds)) => if ds.length < maxLen then some (.nx (ρ.set i (some (.o (ds ++ [x.d])))) st1) else none
      | _ => none
    | none => none
  | .ext i e, ρ, st => match evE F e ρ st with
    | some (.o xs, st1) => match ρ[i]? with
      | some (some (.o ds)) => if ds.length + xs.length ≤ maxLen then some (.nx (ρ.set i (some (.o (ds ++ xs)))) st1) else none
      | _ => none
    | _ => none
  | .popAt i e, ρ, st => match evE F e ρ st with
    | some (.v (.int k), st1) => match ρ[i]? with
      | some (some (.o ds)) => match L2.ixN ds.length k with
        | some p => if ds.length ≤ maxLen then some (.nx (ρ.set i (some (.o (ds.eraseIdx p)))) st1) else none
        | none => none
      | _ => none
    | _ => none
  | .appPop t i e, ρ, st => match evE F e ρ st with
    | some (.v (.int k), st1) => match ρ[i]?, ρ[t]? with
      | some (some (.o ds)), some (some (.o us)) => match L2.ixN ds.length k with
        | some p => if ds.length ≤ maxLen ∧ us.length < maxLen ∧ t ≠ i then match ds[p]? with
          | some d => some (.nx ((ρ.set i (some (.o (ds.eraseIdx p)))).set t (some (.o (us ++ [d])))) st1)
          | none => none
          else none
        | none => none
      | _, _ => none
    | _ => none
  | .ret e, ρ, st => match evE F e ρ st with
    | some (x, st1) => some (.rt x st1)
    | none => none
  | .retO i, ρ, st => match ρ[i]? with
    | some (some (.o ds)) => some (.rt (.o ds) st)
    | _ => none
  | .ite c a b, ρ, st => match evE F c ρ st with
    | some (x, st1) => match truth x.d with
      | some true => evSs W a ρ st1
      | some false => evSs W b ρ st1
      | none => none
    | none => none
  | .for_ t it b, ρ, st => match evI F it ρ st with
    | some (ds, st1) => loop (fun d ρ st => match bindTg t d ρ with
        | some ρ1 => evSs W b ρ1 st
        | none => none) ds ρ st1
    | none => none
  | .while_ c b, ρ, st => loopW (fun ρ st => match evE F c ρ st with
      | some (x, st1) => match truth x.d with
        | some k => some (k, st1)
        | none => none
      | none => none) (fun ρ st => evSs W b ρ st) W ρ st
  | .brk, ρ, st => some (.bk ρ st)
  | .cont, ρ, st => some (.ct ρ st)
  | .bad, _, _ => none
  | .freeze i, ρ, st => match ρ[i]? with
    | some (some (.o ds)) => some (.nx (ρ.set i (some (.v (.list ds)))) st)
    | _ => none
  | .mkcell i, ρ, st => match ρ[i]? with
    | some (some (.o ds)) => some (.nx (ρ.set i (some (.v (.dict [(.none, .int st.length)])))) (st ++ [ds]))
    | _ => none
def evSs (W : Nat) : CSs → Rho → Sto → Option Fl
  | .nil, ρ, st => some (.nx ρ st)
  | .cons s r, ρ, st => match evS W s ρ st with
    | some (.nx ρ1 st1) => evSs W r ρ1 st1
    | o => o
def evPar : List (Nat × Bool) → CEs → Rho → Rho → Sto → Option (Rho × Sto)
  | [], .nil, _, ρ1, st => some (ρ1, st)
  | (i, false) :: is, .cons false e r, ρ, ρ1, st => match evE F e ρ st with
    | some (x, st1) => evPar is r ρ (ρ1.set i (some (.v x.d))) st1
    | none => none
  | (i, true) :: is, .cons false e r, ρ, ρ1, st => match evE F e ρ st with
    | some (.o ds, st1) => evPar is r ρ (ρ1.set i (some (.o ds))) st1
    | _ => none
  | _, _, _, _, _ => none
end

structure FD where
  slots : Nat
  par : Nat
  body : CSs
def initE (n : Nat) (ds : List D) : Rho := (ds.map fun d => some (.v d)) ++ List.replicate (n - ds.length) none
/-- a program: its defs by number; calls so deep -/
def evF (P : Nat → Option FD) (W : Nat) : Nat → FT
  | 0, _, _, _ => none
  | k + 1, f, ds, st => match P f with
    | some d => if ds.length = d.par then match evSs (evF P W k) W d.body (initE d.slots ds) st with
      | some (.nx _ st1) => if st1.length = st.length then some (.v .none, st1) else none
      | some (.rt r st1) => if st1.length = st.length then some (r, st1) else none
      | _ => none
      else none
    | none => none
end Ev

set_option Elab.async false
set_option linter.all false
set_option maxRecDepth 100000
set_option maxHeartbeats 1000000
/-! The relation between data trees and the layer's abstract heap. -/
namespace Ev
open PySem PySem.Spec PyProof.Rows L2

/-- a list apart from those at P: or it is one of the written program -/
def Na (K : PySem.W.Frag) (P : Addr → Prop) (a : Addr) (vs : List V) : Prop := ¬ P a ∨ SqL K (fun _ => none) a vs
/-- a tuple that is known to have no dict -/
def SqD (K : PySem.W.Frag) (H : Hp) (a : Addr) (vs : List V) : Prop :=
  (∃ o : Obj, H a = some (.frz o (.tup vs)) ∧ o.dict = none) ∨ ∃ (o : Obj) (its : Array Value) (n : Nat), K.lookup a = some o ∧ o.cls = .type "tuple" ∧ o.dict = none ∧ o.data = .seq its n ∧ its.size ≤ sizeLine ∧ Vals vs its.toList
theorem SqD.t {K : PySem.W.Frag} {H : Hp} {a : Addr} {vs : List V} (h : SqD K H a vs) : SqT K H a vs := by
  rcases h with ⟨o, h, _⟩ | ⟨o, its, n, h1, h2, _, h3, h4, h5⟩
  · exact .inl (.inr ⟨o, h⟩)
  · exact .inr ⟨o, its, n, h1, h2, h3, h4, h5⟩
theorem SqD.new {K : PySem.W.Frag} {H : Hp} {p : Addr} {vs : List V} {o : Obj} (ho : o.dict = none) : SqD K (upd H p (.frz o (.tup vs))) p vs := .inl ⟨o, upd_same, ho⟩
mutual
inductive Rp (K : PySem.W.Frag) (cs : List Addr) (Av : Addr → Prop) (H : Hp) : V → D → Prop
  | non : Rp K cs Av H .non .none
  | bl (b : Bool) : Rp K cs Av H (.bl b) (.bool b)
  | int (i : Int) : Rp K cs Av H (.int i) (.int i)
  | str (x : Str) : Rp K cs Av H (.str x) (.str x)
  | lst {a : Addr} {vs : List V} {ds : List D} : Na K Av a vs → SqL K H a vs → Rps K cs Av H vs ds → Rp K cs Av H (.ref a) (.list ds)
  | tup {a : Addr} {vs : List V} {ds : List D} : SqD K H a vs → Rps K cs Av H vs ds → Rp K cs Av H (.ref a) (.tuple ds)
  | cell {a : Addr} {n : Nat} : cs[n]? = some a → Rp K cs Av H (.ref a) (.dict [(.none, .int n)])
  | dct {a : Addr} {ks : List L2.Key} {vs : List V} {ds : List D} {kd : List (D × D)} : H a = some (.dK (ks.zip vs)) → ks ≠ [] → ks.length = ds.length → Rps K cs Av H vs ds → kd = (ks.zip ds).map (fun p => (kD p.1, p.2)) → Rp K cs Av H (.ref a) (.dict kd)
  | dct0 {a : Addr} : H a = some (.dT []) → Rp K cs Av H (.ref a) (.dict [])
inductive Rps (K : PySem.W.Frag) (cs : List Addr) (Av : Addr → Prop) (H : Hp) : List V → List D → Prop
  | nil : Rps K cs Av H [] []
  | cons {v : V} {vs : List V} {d : D} {ds : List D} : Rp K cs Av H v d → Rps K cs Av H vs ds → Rps K cs Av H (v :: vs) (d :: ds)
end
/-- as Rp, but the outermost list may be one that a slot owns -/
def Rw (K : PySem.W.Frag) (cs : List Addr) (Av : Addr → Prop) (H : Hp) (v : V) (d : D) : Prop :=
  Rp K cs Av H v d ∨ ∃ a vs ds, v = .ref a ∧ d = .list ds ∧ Na K (· ∈ cs) a vs ∧ SqL K H a vs ∧ Rps K cs Av H vs ds
/-- all but the cells is kept -/
def Ext (cs : List Addr) (H H' : Hp) : Prop := ∀ b o, H b = some o → b ∉ cs → H' b = some o
structure AvOk (cs : List Addr) (Av : Addr → Prop) (H : Hp) : Prop where
  sub : ∀ a ∈ cs, Av a
  lst : ∀ a, Av a → ∃ xs, H a = some (.lst xs)
structure Cl (K : PySem.W.Frag) (cs : List Addr) (Av : Addr → Prop) (H : Hp) (st : Sto) : Prop where
  len : cs.length = st.length
  nd : cs.Nodup
  at_ : ∀ (n : Nat) (a : Addr) (ds : List D), cs[n]? = some a → st[n]? = some ds → ∃ vs, H a = some (.lst vs) ∧ Rps K cs Av H vs ds
/-- what a result stands for: data, or a new list -/
def RpR (K : PySem.W.Frag) (cs : List Addr) (Av : Addr → Prop) (H0 H : Hp) (v : V) : RV → Prop
  | .v d => Rp K cs Av H v d
  | .o ds => ∃ a vs, v = .ref a ∧ H0 a = none ∧ H a = some (.lst vs) ∧ Rps K cs (fun b => Av b ∨ b = a) H vs ds
def SlotOk (K : PySem.W.Frag) (cs : List Addr) (Av : Addr → Prop) (H : Hp) (v : Option (Option V)) : Option (Option RV) → Prop
  | some (some (.v d)) => ∃ x, v = some (some x) ∧ Rp K cs Av H x d
  | some (some (.o ds)) => ∃ a vs, v = some (some (.ref a)) ∧ Av a ∧ a ∉ cs ∧ H a = some (.lst vs) ∧ Rps K cs Av H vs ds
  | _ => True
structure En (K : PySem.W.Frag) (cs : List Addr) (Av : Addr → Prop) (H : Hp) (σ : L2.St) (ρ : Rho) : Prop where
  len : σ.length = ρ.length
  at_ : ∀ i : Nat, SlotOk K cs Av H σ[i]? ρ[i]?

section
variable {K : PySem.W.Frag} {cs : List Addr} {Av Av' : Addr → Prop} {H H' H1 H2 : Hp} {v : V} {vs : List V} {d : D} {ds : List D} {st : Sto} {σ : L2.St} {ρ : Rho} {r : RV}
theorem Ext.refl (cs : List Addr) (H : Hp) : Ext cs H H := fun _ _ h _ => h
theorem Ext.trans (a : Ext cs H H1) (b : Ext cs H1 H2) : Ext cs H H2 := fun c o h n => b c o (a c o h n) n
theorem Ext.all (a : Ext [] H H1) : Ext cs H H1 := fun c o h _ => a c o h (by simp)
theorem Ext.upd {p : Addr} {o : HO} (h : H p = none) : Ext cs H (upd H p o) := fun b u e _ => by
  rw [upd_ne (ne_of_none e h)]; exact e
theorem Ext.free {p : Addr} (e : Ext [] H H1) (h : H1 p = none) : H p = none := by
  cases q : H p with
  | none => rfl
  | some o => have := e p o q (by simp); rw [h] at this; cases this
theorem AvOk.not_cell (ok : AvOk cs Av H) {a : Addr} {o : HO} (h : H a = some o) (hn : ∀ xs, o ≠ .lst xs) : a ∉ cs := fun hm => by
  obtain ⟨xs, e⟩ := ok.lst a (ok.sub a hm)
  rw [h] at e
  exact hn xs (Option.some.inj e)
theorem sqT_ext (ok : AvOk cs Av H) (e : Ext cs H H') {a : Addr} (h : SqT K H a vs) : SqT K H' a vs := by
  rcases h with (h | ⟨o, h⟩) | h
  · exact .inl (.inl (e a _ h (ok.not_cell h (by intro _ z; cases z))))
  · exact .inl (.inr ⟨o, e a _ h (ok.not_cell h (by intro _ z; cases z))⟩)
  · exact .inr h
theorem sqD_ext (ok : AvOk cs Av H) (e : Ext cs H H') {a : Addr} (h : SqD K H a vs) : SqD K H' a vs := by
  rcases h with ⟨o, h, d⟩ | h
  · exact .inl ⟨o, e a _ h (ok.not_cell h (by intro _ z; cases z)), d⟩
  · exact .inr h
theorem kl_any {a : Addr} (h : SqL K (fun _ => none) a vs) : SqL K H a vs := by
  rcases h with (h | ⟨o, h⟩) | h
  · cases h
  · cases h
  · exact .inr h
theorem sqL_ext {a : Addr} (h : SqL K H a vs) (ok : AvOk cs Av H) (e : Ext cs H H') (na : Na K (· ∈ cs) a vs) : SqL K H' a vs := by
  rcases na with na | na
  case inr => exact kl_any na
  rcases h with (h | ⟨o, h⟩) | h
  · exact .inl (.inl (e a _ h na))
  · exact .inl (.inr ⟨o, e a _ h na⟩)
  · exact .inr h
mutual
theorem Rp.ext (ok : AvOk cs Av H) (e : Ext cs H H') : ∀ {v : V} {d : D}, Rp K cs Av H v d → Rp K cs Av H' v d
  | _, _, .non => .non
  | _, _, .bl b => .bl b
  | _, _, .int i => .int i
  | _, _, .str x => .str x
  | _, _, .lst na h r => .lst na (sqL_ext h ok e (na.imp (fun n z => n (ok.sub _ z)) id)) (Rps.ext ok e r)
  | _, _, .tup h r => .tup (sqD_ext ok e h) (Rps.ext ok e r)
  | _, _, .cell h => .cell h
  | _, _, .dct h h0 hl r hk => .dct (e _ _ h (ok.not_cell h fun xs z => nomatch z)) h0 hl (Rps.ext ok e r) hk
  | _, _, .dct0 h => .dct0 (e _ _ h (ok.not_cell h fun xs z => nomatch z))
theorem Rps.ext (ok : AvOk cs Av H) (e : Ext cs H H') : ∀ {vs : List V} {ds : List D}, Rps K cs Av H vs ds → Rps K cs Av H' vs ds
  | _, _, .nil => .nil
  | _, _, .cons r t => .cons (Rp.ext ok e r) (Rps.ext ok e t)
end
mutual
/-- another avoidance: fewer lists, or lists that did not stand -/
theorem Rp.av (h : ∀ a, Av' a → Av a ∨ H a = none) : ∀ {v : V} {d : D}, Rp K cs Av H v d → Rp K cs Av' H v d
  | _, _, .non => .non
  | _, _, .bl b => .bl b
  | _, _, .int i => .int i
  | _, _, .str x => .str x
  | _, _, .lst na hl r => .lst (by
      rcases na with na | na
      case inr => exact .inr na
      rcases hl with (hl | ⟨o, hl⟩) | hl
      · refine .inl fun z => ?_
        rcases h _ z with q | q
        · exact na q
        · rw [q] at hl; cases hl
      · refine .inl fun z => ?_
        rcases h _ z with q | q
        · exact na q
        · rw [q] at hl; cases hl
      · exact .inr (.inr hl)) hl (Rps.av h r)
  | _, _, .tup ht r => .tup ht (Rps.av h r)
  | _, _, .cell hc => .cell hc
  | _, _, .dct hd h0 hl r hk => .dct hd h0 hl (Rps.av h r) hk
  | _, _, .dct0 hd => .dct0 hd
theorem Rps.av (h : ∀ a, Av' a → Av a ∨ H a = none) : ∀ {vs : List V} {ds : List D}, Rps K cs Av H vs ds → Rps K cs Av' H vs ds
  | _, _, .nil => .nil
  | _, _, .cons r t => .cons (Rp.av h r) (Rps.av h t)
end
end
/-- what is tracked is no part of the written program -/
def KFree (K : PySem.W.Frag) (H : Hp) : Prop := ∀ a o, H a = some o → K.lookup a = none
section
variable {X : Cx} {pins : List (Addr × Obj)} {σ : L2.St} {H : Hp} {s : Shared}
theorem kfree (I : Inv X pins σ H s) : KFree X.K H := fun a o e => by
  cases q : X.K.lookup a with
  | none => rfl
  | some u =>
    have b : X.base.get? a = some u := I.ok.mod.kin a u q
    rw [(I.bs a u b).2] at e
    cases e
end
section
variable {K : PySem.W.Frag} {cs : List Addr} {Av Av' : Addr → Prop} {H H' H1 H2 : Hp} {v : V} {vs : List V} {d : D} {ds : List D} {st : Sto} {σ : L2.St} {ρ : Rho} {r : RV}
theorem Rps.length : ∀ {vs : List V} {ds : List D}, Rps K cs Av H vs ds → vs.length = ds.length
  | _, _, .nil => rfl
  | _, _, .cons _ t => by simp [Rps.length t]
theorem Rps.append : ∀ {vs us : List V} {ds es : List D}, Rps K cs Av H vs ds → Rps K cs Av H us es → Rps K cs Av H (vs ++ us) (ds ++ es)
  | _, _, _, _, .nil, q => q
  | _, _, _, _, .cons r t, q => .cons r (Rps.append t q)
theorem Rps.get : ∀ {vs : List V} {ds : List D} {i : Nat} {d : D}, Rps K cs Av H vs ds → ds[i]? = some d → ∃ v, vs[i]? = some v ∧ Rp K cs Av H v d
  | _, _, _, _, .nil, e => by simp at e
  | _, _, 0, _, .cons r _, e => by simp at e; subst e; exact ⟨_, rfl, r⟩
  | _, _, i + 1, _, .cons _ t, e => by
    obtain ⟨u, h1, h2⟩ := Rps.get (i := i) t (by simpa using e)
    exact ⟨u, by simpa using h1, h2⟩
theorem Rps.getV : ∀ {vs : List V} {ds : List D} {i : Nat} {v : V}, Rps K cs Av H vs ds → vs[i]? = some v → ∃ d, ds[i]? = some d ∧ Rp K cs Av H v d
  | _, _, _, _, .nil, e => by simp at e
  | _, _, 0, _, .cons r _, e => by simp at e; subst e; exact ⟨_, rfl, r⟩
  | _, _, i + 1, _, .cons _ t, e => by
    obtain ⟨u, h1, h2⟩ := Rps.getV (i := i) t (by simpa using e)
    exact ⟨u, by simpa using h1, h2⟩
theorem Rps.take : ∀ {vs : List V} {ds : List D} (n : Nat), Rps K cs Av H vs ds → Rps K cs Av H (vs.take n) (ds.take n)
  | _, _, 0, _ => by simpa using .nil
  | _, _, _ + 1, .nil => by simpa using .nil
  | _, _, n + 1, .cons r t => by simpa using .cons r (Rps.take n t)
theorem Rps.drop : ∀ {vs : List V} {ds : List D} (n : Nat), Rps K cs Av H vs ds → Rps K cs Av H (vs.drop n) (ds.drop n)
  | _, _, 0, h => by simpa using h
  | _, _, _ + 1, .nil => by simpa using .nil
  | _, _, n + 1, .cons _ t => by simpa using Rps.drop n t
theorem Rps.set : ∀ {vs : List V} {ds : List D} (n : Nat) {v : V} {d : D}, Rps K cs Av H vs ds → Rp K cs Av H v d → Rps K cs Av H (vs.set n v) (ds.set n d)
  | _, _, _, _, _, .nil, _ => by simpa using .nil
  | _, _, 0, _, _, .cons _ t, q => by simpa using .cons q t
  | _, _, n + 1, _, _, .cons r t, q => by simpa using .cons r (Rps.set n t q)
theorem Rps.eraseIdx : ∀ {vs : List V} {ds : List D} (n : Nat), Rps K cs Av H vs ds → Rps K cs Av H (vs.eraseIdx n) (ds.eraseIdx n)
  | _, _, _, .nil => by simpa using .nil
  | _, _, 0, .cons _ t => by simpa using t
  | _, _, n + 1, .cons r t => by simpa using .cons r (Rps.eraseIdx n t)
theorem Rps.reverse {vs : List V} {ds : List D} (h : Rps K cs Av H vs ds) : Rps K cs Av H vs.reverse ds.reverse := by
  induction vs generalizing ds with
  | nil => cases h; exact .nil
  | cons v vs ih =>
    cases h with
    | cons r t => simpa using Rps.append (ih t) (.cons r .nil)
theorem Rps.rep {vs : List V} {ds : List D} (h : Rps K cs Av H vs ds) : ∀ n : Nat, Rps K cs Av H (List.replicate n vs).flatten (List.replicate n ds).flatten
  | 0 => .nil
  | n + 1 => by simpa [List.replicate_succ] using Rps.append h (Rps.rep h n)
theorem Rps.ints : ∀ (ns : List Int), Rps K cs Av H (ns.map V.int) (ns.map PyData.int)
  | [] => .nil
  | n :: r => .cons (.int n) (Rps.ints r)
theorem Rps.ints_of : ∀ {vs : List V} {ds : List D} {ns : List Int}, Rps K cs Av H vs ds → ints? ds = some ns → vs = ns.map V.int ∧ ds = ns.map PyData.int
  | _, _, _, .nil, e => by simp [ints?] at e; subst e; simp
  | _, _, _, .cons (d := d) r t, e => by
    cases d with
    | int i =>
      simp only [ints?, Option.map_eq_some_iff] at e
      obtain ⟨ms, e1, rfl⟩ := e
      obtain ⟨h1, h2⟩ := Rps.ints_of t e1
      cases r
      simp [h1, h2]
    | _ => simp [ints?] at e
theorem Rps.bools_of : ∀ {vs : List V} {ds : List D} {ns : List Bool}, Rps K cs Av H vs ds → bools? ds = some ns → vs = ns.map V.bl ∧ ds = ns.map PyData.bool
  | _, _, _, .nil, e => by simp [bools?] at e; subst e; simp
  | _, _, _, .cons (d := d) r t, e => by
    cases d with
    | bool i =>
      simp only [bools?, Option.map_eq_some_iff] at e
      obtain ⟨ms, e1, rfl⟩ := e
      obtain ⟨h1, h2⟩ := Rps.bools_of t e1
      cases r
      simp [h1, h2]
    | _ => simp [bools?] at e
end
def add (Av : Addr → Prop) (a : Addr) : Addr → Prop := fun b => Av b ∨ b = a
/-- all but the lists at P is kept -/
def ExtP (P : Addr → Prop) (H H' : Hp) : Prop := ∀ b o, H b = some o → ¬ P b → H' b = some o
section
variable {K : PySem.W.Frag} {cs : List Addr} {Av P : Addr → Prop} {H H' H1 H2 : Hp} {v : V} {vs : List V} {d : D} {ds : List D} {st : Sto}
theorem ExtP.refl : ExtP P H H := fun _ _ h _ => h
theorem ExtP.trans (a : ExtP P H H1) (b : ExtP P H1 H2) : ExtP P H H2 := fun c o h n => b c o (a c o h n) n
theorem Ext.p (e : Ext cs H H') (h : ∀ a ∈ cs, P a) : ExtP P H H' := fun b o x n => e b o x fun z => n (h b z)
/-- what is avoided, and the lists that may be written -/
structure Avd (Av P : Addr → Prop) (H : Hp) : Prop where
  sub : ∀ a, P a → Av a
  lst : ∀ a, P a → ∃ xs, H a = some (.lst xs)
theorem Avd.not (a : Avd Av P H) {b : Addr} {o : HO} (h : H b = some o) (hn : ∀ xs, o ≠ .lst xs) : ¬ P b := fun z => by
  obtain ⟨xs, e⟩ := a.lst b z
  rw [h] at e
  exact hn xs (Option.some.inj e)
theorem sqT_p (a : Avd Av P H) (e : ExtP P H H') {b : Addr} (h : SqT K H b vs) : SqT K H' b vs := by
  rcases h with (h | ⟨o, h⟩) | h
  · exact .inl (.inl (e b _ h (a.not h (by intro _ z; cases z))))
  · exact .inl (.inr ⟨o, e b _ h (a.not h (by intro _ z; cases z))⟩)
  · exact .inr h
theorem sqD_p (a : Avd Av P H) (e : ExtP P H H') {b : Addr} (h : SqD K H b vs) : SqD K H' b vs := by
  rcases h with ⟨o, h, d⟩ | h
  · exact .inl ⟨o, e b _ h (a.not h (by intro _ z; cases z)), d⟩
  · exact .inr h
theorem sqL_p {b : Addr} (h : SqL K H b vs) (e : ExtP P H H') (na : Na K P b vs) : SqL K H' b vs := by
  rcases na with na | na
  case inr => exact kl_any na
  rcases h with (h | ⟨o, h⟩) | h
  · exact .inl (.inl (e b _ h na))
  · exact .inl (.inr ⟨o, e b _ h na⟩)
  · exact .inr h
mutual
theorem Rp.p (a : Avd Av P H) (e : ExtP P H H') : ∀ {v : V} {d : D}, Rp K cs Av H v d → Rp K cs Av H' v d
  | _, _, .non => .non
  | _, _, .bl b => .bl b
  | _, _, .int i => .int i
  | _, _, .str x => .str x
  | _, _, .lst na h r => .lst na (sqL_p h e (na.imp (fun n z => n (a.sub _ z)) id)) (Rps.p a e r)
  | _, _, .tup h r => .tup (sqD_p a e h) (Rps.p a e r)
  | _, _, .cell h => .cell h
  | _, _, .dct h h0 hl r hk => .dct (e _ _ h (a.not h fun xs z => nomatch z)) h0 hl (Rps.p a e r) hk
  | _, _, .dct0 h => .dct0 (e _ _ h (a.not h fun xs z => nomatch z))
theorem Rps.p (a : Avd Av P H) (e : ExtP P H H') : ∀ {vs : List V} {ds : List D}, Rps K cs Av H vs ds → Rps K cs Av H' vs ds
  | _, _, .nil => .nil
  | _, _, .cons r t => .cons (Rp.p a e r) (Rps.p a e t)
end
end
section
variable {K : PySem.W.Frag} {cs : List Addr} {Av Av' : Addr → Prop} {H H' H1 H2 H0 : Hp} {v : V} {vs : List V} {d : D} {ds : List D} {st : Sto} {σ : L2.St} {ρ : Rho} {r : RV} {a : Addr}
theorem AvOk.add (ok : AvOk cs Av H) {a : Addr} {xs : List V} (h : H a = some (.lst xs)) : AvOk cs (Ev.add Av a) H := ⟨fun b hb => .inl (ok.sub b hb), fun b hb => by
  rcases hb with hb | rfl
  · exact ok.lst b hb
  · exact ⟨xs, h⟩⟩
theorem AvOk.avd (ok : AvOk cs Av H) (h : ∀ a, Av a → Av' a) : Avd Av' (· ∈ cs) H := ⟨fun a h' => h a (ok.sub a h'), fun a h' => ok.lst a (ok.sub a h')⟩
theorem Ext.pc (e : Ext cs H H') : ExtP (· ∈ cs) H H' := fun b o x n => e b o x n
/-- a new list's content knows nothing of it -/
theorem Rps.new (r : Rps K cs Av H vs ds) (ok : AvOk cs Av H) {a : Addr} (h0 : H a = none) (e : Ext cs H H') : Rps K cs (Ev.add Av a) H' vs ds :=
  (r.av fun b hb => hb.imp id fun z => by rw [z]; exact h0).p (ok.avd fun b hb => .inl hb) e.pc
theorem Cl.new (cl : Cl K cs Av H st) (ok : AvOk cs Av H) {a : Addr} (h0 : H a = none) (e : Ext [] H H') : Cl K cs (Ev.add Av a) H' st := ⟨cl.len, cl.nd, fun n b ds h1 h2 => by
  obtain ⟨vs, q, r⟩ := cl.at_ n b ds h1 h2
  exact ⟨vs, e b _ q (by simp), r.new ok h0 e.all⟩⟩
theorem Rp.w (h : Rp K cs Av H v d) : Rw K cs Av H v d := .inl h
theorem sqT_u {p b : Addr} {o u : HO} (h : SqT K H b vs) (hp : H p = some o) (hn : ∀ xs, o ≠ .tup xs) (hf : ∀ q x, o ≠ .frz q x) : SqT K (upd H p u) b vs := by
  rcases h with (h | ⟨q, h⟩) | h
  · exact .inl (.inl (by rw [upd_ne fun z => by subst z; rw [hp] at h; cases h; exact hn _ rfl]; exact h))
  · exact .inl (.inr ⟨q, by rw [upd_ne fun z => by subst z; rw [hp] at h; cases h; exact hf _ _ rfl]; exact h⟩)
  · exact .inr h
theorem sqD_u {p b : Addr} {o u : HO} (h : SqD K H b vs) (hp : H p = some o) (hf : ∀ q x, o ≠ .frz q x) : SqD K (upd H p u) b vs := by
  rcases h with ⟨q, h, d⟩ | h
  · exact .inl ⟨q, by rw [upd_ne fun z => by subst z; rw [hp] at h; cases h; exact hf _ _ rfl]; exact h, d⟩
  · exact .inr h
theorem sqL_u {p b : Addr} {o u : HO} (h : SqL K H b vs) (hp : H p = some o) (hn : ∀ xs, o ≠ .lst xs) (hf : ∀ q x, o ≠ .frz q x) : SqL K (upd H p u) b vs := by
  rcases h with (h | ⟨q, h⟩) | h
  · exact .inl (.inl (by rw [upd_ne fun z => by subst z; rw [hp] at h; cases h; exact hn _ rfl]; exact h))
  · exact .inl (.inr ⟨q, by rw [upd_ne fun z => by subst z; rw [hp] at h; cases h; exact hf _ _ rfl]; exact h⟩)
  · exact .inr h
mutual
/-- a dict that is yet empty is no part of the data -/
theorem Rp.u {p : Addr} {u : HO} (hp : H p = some (.dK [])) : ∀ {v : V} {d : D}, Rp K cs Av H v d → Rp K cs Av (upd H p u) v d
  | _, _, .non => .non
  | _, _, .bl b => .bl b
  | _, _, .int i => .int i
  | _, _, .str x => .str x
  | _, _, .lst na h r => .lst na (sqL_u h hp (fun xs z => nomatch z) fun _ _ z => nomatch z) (Rps.u hp r)
  | _, _, .tup h r => .tup (sqD_u h hp fun _ _ z => nomatch z) (Rps.u hp r)
  | _, _, .cell h => .cell h
  | _, _, .dct (ks := ks) (vs := vs) h h0 hl r hk => .dct (by
      rw [upd_ne fun z => ?_]
      · exact h
      · subst z
        rw [hp] at h
        have e : ([] : List (L2.Key × V)) = ks.zip vs := by injection h with h; injection h with h
        have l := congrArg List.length e
        rw [List.length_zip, r.length, hl, Nat.min_self] at l
        exact h0 (List.eq_nil_of_length_eq_zero (hl.trans l.symm))) h0 hl (Rps.u hp r) hk
  | _, _, .dct0 h => .dct0 (by
      rw [upd_ne fun z => ?_]
      · exact h
      · subst z
        rw [hp] at h
        cases h)
theorem Rps.u {p : Addr} {u : HO} (hp : H p = some (.dK [])) : ∀ {vs : List V} {ds : List D}, Rps K cs Av H vs ds → Rps K cs Av (upd H p u) vs ds
  | _, _, .nil => .nil
  | _, _, .cons r t => .cons (Rp.u hp r) (Rps.u hp t)
end
/-- a new list, owned or not, is data -/
theorem RpR.rp (h : RpR K cs Av H1 H v r) (ok : ∀ a, Av a → ∃ o, H1 a = some o) : Rp K cs Av H v r.d := by
  cases r with
  | v d => exact h
  | o ds =>
    obtain ⟨a, vs, rfl, h0, h1, rs⟩ := h
    refine .lst (.inl fun z => ?_) (SqL.of h1) (rs.av fun b hb => .inl (.inl hb))
    obtain ⟨o, e⟩ := ok a z
    rw [h0] at e
    cases e
theorem RpR.ext (ok : AvOk cs Av H) (e : Ext cs H H') (old : ∀ a ∈ cs, ∃ o, H1 a = some o) (h : RpR K cs Av H1 H v r) : RpR K cs Av H1 H' v r := by
  cases r with
  | v d => exact Rp.ext ok e h
  | o ds =>
    obtain ⟨a, vs, rfl, h0, h1, rs⟩ := h
    refine ⟨a, vs, rfl, h0, e a _ h1 (fun z => ?_), Rps.ext (ok.add h1) e rs⟩
    obtain ⟨o, q⟩ := old a z
    rw [h0] at q
    cases q
theorem RpR.old (e : Ext cs H2 H1) (ok : AvOk cs Av H1) (h : RpR K cs Av H1 H v r) : RpR K cs Av H2 H v r := by
  cases r with
  | v d => exact h
  | o ds =>
    obtain ⟨a, vs, rfl, h0, h1, rs⟩ := h
    refine ⟨a, vs, rfl, ?_, h1, rs⟩
    cases q : H2 a with
    | none => rfl
    | some o =>
      by_cases hc : a ∈ cs
      · obtain ⟨xs, z⟩ := ok.lst a (ok.sub a hc)
        rw [h0] at z
        cases z
      · rw [e a o q hc] at h0
        cases h0
theorem Rw.ext (ok : AvOk cs Av H) (e : Ext cs H H') (h : Rw K cs Av H v d) : Rw K cs Av H' v d := by
  rcases h with h | ⟨a, vs, ds, rfl, rfl, na, h, r⟩
  · exact .inl (h.ext ok e)
  · exact .inr ⟨a, vs, ds, rfl, rfl, na, sqL_ext h ok e na, r.ext ok e⟩
theorem AvOk.ext (ok : AvOk cs Av H) (e : Ext cs H H') (cl : Cl K cs Av H' st) : AvOk cs Av H' := ⟨ok.sub, fun a h => by
  by_cases hc : a ∈ cs
  · obtain ⟨n, hn, en⟩ := List.mem_iff_getElem.mp hc
    have h1 : cs[n]? = some a := by rw [List.getElem?_eq_getElem hn, en]
    have h2 : n < st.length := by rw [← cl.len]; exact hn
    obtain ⟨vs, q, _⟩ := cl.at_ n a _ h1 (List.getElem?_eq_getElem h2)
    exact ⟨vs, q⟩
  · obtain ⟨xs, q⟩ := ok.lst a h
    exact ⟨xs, e a _ q hc⟩⟩
theorem Cl.ext (cl : Cl K cs Av H st) (ok : AvOk cs Av H) (e : Ext [] H H') : Cl K cs Av H' st := ⟨cl.len, cl.nd, fun n a ds h1 h2 => by
  obtain ⟨vs, q, r⟩ := cl.at_ n a ds h1 h2
  exact ⟨vs, e a _ q (by simp), r.ext ok e.all⟩⟩
theorem SlotOk.ext (ok : AvOk cs Av H) (e : Ext cs H H') {x : Option (Option V)} {y : Option (Option RV)} (h : SlotOk K cs Av H x y) : SlotOk K cs Av H' x y := by
  match y, h with
  | none, _ => trivial
  | some none, _ => trivial
  | some (some (.v d)), ⟨x, h1, h2⟩ => exact ⟨x, h1, h2.ext ok e⟩
  | some (some (.o ds)), ⟨a, vs, h1, h2, h3, h4, h5⟩ => exact ⟨a, vs, h1, h2, h3, e a _ h4 h3, h5.ext ok e⟩
theorem En.ext (en : En K cs Av H σ ρ) (ok : AvOk cs Av H) (e : Ext cs H H') : En K cs Av H' σ ρ := ⟨en.len, fun i => (en.at_ i).ext ok e⟩

mutual
theorem Rp.dp : ∀ {v : V} {d : D}, Rp K cs Av H v d → d.plain = true → Dp K H v d
  | _, _, .non, _ => .non
  | _, _, .bl b, _ => .bl b
  | _, _, .int i, _ => .int i
  | _, _, .str x, _ => .str x
  | _, _, .lst _ h r, p => .lst h (Rps.dp r (by simpa [PyData.plain] using p))
  | _, _, .tup h r, p => .tup h.t (Rps.dp r (by simpa [PyData.plain] using p))
  | _, _, .cell _, p => by simp [PyData.plain] at p
  | _, _, .dct .., p => by simp [PyData.plain] at p
  | _, _, .dct0 .., p => by simp [PyData.plain] at p
theorem Rps.dp : ∀ {vs : List V} {ds : List D}, Rps K cs Av H vs ds → PyData.plainAll ds = true → DpAll K H vs ds
  | _, _, .nil, _ => .nil
  | _, _, .cons r t, p => by
    simp only [PyData.plainAll, Bool.and_eq_true] at p
    exact .cons (Rp.dp r p.1) (Rps.dp t p.2)
end
theorem Rw.dp (h : Rw K cs Av H v d) (p : d.plain = true) : Dp K H v d := by
  rcases h with h | ⟨a, vs, ds, rfl, rfl, _, h, r⟩
  · exact h.dp p
  · exact .lst h (r.dp (by simpa [PyData.plain] using p))
theorem shal_plain {n : Nat} {d : D} (h : shal n d = true) : d.plain = true ∧ d.depth ≤ n := by
  simpa [shal] using h
theorem shalAll_plain {n : Nat} {d : List D} (h : shalAll n d = true) : PyData.plainAll d = true ∧ PyData.depthAll d ≤ n := by
  simpa [shalAll] using h
/-- what is at a list, a tuple -/
theorem Rw.list (h : Rw K cs Av H v (.list ds)) : ∃ a vs, v = .ref a ∧ SqL K H a vs ∧ Rps K cs Av H vs ds := by
  rcases h with h | ⟨a, vs, es, rfl, e, _, h, r⟩
  · cases h with
    | lst _ h r => exact ⟨_, _, rfl, h, r⟩
  · cases e
    exact ⟨a, vs, rfl, h, r⟩
theorem Rw.tuple (h : Rw K cs Av H v (.tuple ds)) : ∃ a vs, v = .ref a ∧ SqD K H a vs ∧ Rps K cs Av H vs ds := by
  rcases h with h | ⟨a, vs, es, rfl, e, _, h, r⟩
  · cases h with
    | tup h r => exact ⟨_, _, rfl, h, r⟩
  · cases e
/-- what a walk hands out: a pair may be any tuple -/
def RpX (K : PySem.W.Frag) (cs : List Addr) (Av : Addr → Prop) (H : Hp) (pr : Bool) (v : V) (d : D) : Prop :=
  Rp K cs Av H v d ∨ (pr = true ∧ ∃ a vs ds, v = .ref a ∧ d = .tuple ds ∧ SqT K H a vs ∧ Rps K cs Av H vs ds)
theorem RpX.ext {pr : Bool} (ok : AvOk cs Av H) (e : Ext cs H H') (h : RpX K cs Av H pr v d) : RpX K cs Av H' pr v d := by
  rcases h with h | ⟨hp, a, vs, ds, rfl, rfl, h, r⟩
  · exact .inl (h.ext ok e)
  · exact .inr ⟨hp, a, vs, ds, rfl, rfl, sqT_ext ok e h, r.ext ok e⟩
theorem RpX.to {pr pr' : Bool} (h : RpX K cs Av H pr v d) (i : pr = true → pr' = true) : RpX K cs Av H pr' v d := by
  rcases h with h | ⟨hp, h⟩
  · exact .inl h
  · exact .inr ⟨i hp, h⟩
theorem RpX.f (h : RpX K cs Av H false v d) : Rp K cs Av H v d := by
  rcases h with h | ⟨hp, _⟩
  · exact h
  · cases hp
theorem RpX.tuple {pr : Bool} (h : RpX K cs Av H pr v (.tuple ds)) : ∃ a vs, v = .ref a ∧ SqT K H a vs ∧ Rps K cs Av H vs ds := by
  rcases h with h | ⟨_, a, vs, es, rfl, e, h, r⟩
  · cases h with
    | tup h r => exact ⟨_, _, rfl, h.t, r⟩
  · cases e
    exact ⟨a, vs, rfl, h, r⟩
theorem Rw.int {i : Int} (h : Rw K cs Av H v (.int i)) : v = .int i := by
  rcases h with h | ⟨a, vs, es, rfl, e, _, h, r⟩
  · cases h; rfl
  · cases e
theorem Rw.str {i : Str} (h : Rw K cs Av H v (.str i)) : v = .str i := by
  rcases h with h | ⟨a, vs, es, rfl, e, _, h, r⟩
  · cases h; rfl
  · cases e
theorem Rw.bool {i : Bool} (h : Rw K cs Av H v (.bool i)) : v = .bl i := by
  rcases h with h | ⟨a, vs, es, rfl, e, _, h, r⟩
  · cases h; rfl
  · cases e
theorem Rw.none_iff (h : Rw K cs Av H v d) : decide (v = .non) = isNone d := by
  rcases h with h | ⟨a, vs, es, rfl, rfl, _, h, r⟩
  · cases h <;> rfl
  · rfl
end
end Ev

set_option Elab.async false
set_option linter.all false
set_option maxRecDepth 100000
set_option maxHeartbeats 4000000
/-! Tuples that are made: they are known to have no dict. -/
namespace Ev
open PySem PySem.Spec PyProof.Rows L2 HT
def tupO (its : List Value) : Obj := { cls := .type "tuple", data := .seq its.toArray }
section
variable {X : Cx} {pins : List (Addr × Obj)} {σ : L2.St} {H : Hp} {s : Shared}
theorem tup_laid {its : List Value} {xs : List V} {h' : Heap} {t' : Nat} {a : Addr} (I : Inv X pins σ H s) (k : ∀ b u, s.heap.get? b = some u → h'.get? b = some u) (hp : s.heap.objs.size ≤ a) (hg : h'.get? a = some (tupO its)) (r : Vals xs its) (z : xs.length ≤ sizeLine) :
    Inv X pins σ (upd H a (.frz (tupO its) (.tup xs))) { s with heap := h', toks := t' } := I.laid k hp ⟨hg, z, its, r, ⟨_, hg, rfl, _, rfl⟩⟩
/-- a new tuple -/
def nT (Q : VK) (H : Hp) (xs : List V) : Prop := ∀ p o, o.dict = none → H p = none → Q (.ref p) (upd H p (.frz o (.tup xs)))
def tTupD (t : TA) : TE := fun σ H Q => t σ H fun xs H1 => xs.length ≤ sizeLine ∧ nT Q H1 xs
theorem pe_tupD {es : List Expr} {t : TA} {pos : Pos} {x1} (h : PA X es t) : PE X (.Tuple es x1 pos) (tTupD t) := by
  refine ⟨fun pins s σ H Q I hq => ?_⟩
  refine wpAny_Tuple_spliced (thn (h.run pos pins s σ H _ I hq) fun us s1 ⟨xs, H1, I1, r, z, q⟩ => ⟨by rw [← r.length]; exact z, ?_⟩)
  have hf : H1 s1.heap.objs.size = none := I1.hok.fresh (Nat.le_refl _)
  exact ⟨.ref s1.heap.objs.size, _, tup_laid (t' := s1.toks) I1 (fun b u e => Heap.get?_push_of_some _ e) (Nat.le_refl _) (Heap.get?_push_size _ rfl) r z, rfl, q _ _ rfl hf⟩
def rCatD (K : PySem.W.Frag) : R2 := fun x y H Q => ∃ a b xs ys, x = .ref a ∧ y = .ref b ∧ SqT K H a xs ∧ SqT K H b ys ∧ xs.length + ys.length ≤ sizeLine ∧
  (xs = [] → Q (.ref b) H) ∧ (xs ≠ [] → ys = [] → Q (.ref a) H) ∧ (xs ≠ [] → ys ≠ [] → nT Q H (xs ++ ys))
theorem op_catD : OpR X (binaryOp .Add) (rCatD X.K) := by
  intro pins s σ H x y v u Q I rx ry h
  obtain ⟨a, b, xs, ys, rfl, rfl, ha, hb, hz, q0, q1, q2⟩ := h
  cases rx
  cases ry
  obtain ⟨its, r1, p1, _⟩ := I.tuple ha
  obtain ⟨its2, r2, p2, _⟩ := I.tuple hb
  by_cases hx : xs = []
  · subst hx
    cases r1
    exact cat_tup0 p1 p2 ⟨.ref b, H, I, rfl, q0 rfl⟩
  · refine HT.cat_tup p1 p2 (fun z => hx (r1.nil_iff.mp z)) (fun z => ⟨.ref a, H, I, rfl, q1 hx (r2.nil_iff.mp z)⟩) (fun z => ?_) (by rw [← r1.length, ← r2.length]; exact hz)
    exact ⟨.ref s.heap.objs.size, _, tup_laid (t' := s.toks) I (fun b ob q => Heap.get?_push_of_some _ q) (Nat.le_refl _) (Heap.get?_push_size _ rfl) (r1.append r2) (by rw [List.length_append]; exact hz), rfl, q2 hx (fun w => z (r2.nil_iff.mpr w)) _ _ rfl (I.hok.fresh (Nat.le_refl _))⟩
def rSlD (K : PySem.W.Frag) : V → Option Int → Option Int → Hp → VK → Prop := fun x lo hi H Q => ∃ a xs, x = .ref a ∧ SqT K H a xs ∧
  (HT.sIx xs.length 0 lo = 0 ∧ HT.sIx xs.length xs.length hi = xs.length → Q (.ref a) H) ∧ (¬ (HT.sIx xs.length 0 lo = 0 ∧ HT.sIx xs.length xs.length hi = xs.length) → nT Q H (cutV xs lo hi))
theorem sl_tupD : SlR X (rSlD X.K) := by
  intro pins s σ H x v vl vu lo hi sl Q I rx hs pl pu h
  obtain ⟨a, xs, rfl, hx, q1, q2⟩ := h
  cases rx
  obtain ⟨its, r, ht, hz⟩ := I.tuple hx
  have hlen : its.toArray.size = xs.length := by rw [List.size_toArray]; exact r.length.symm
  by_cases hw : HT.sIx xs.length 0 lo = 0 ∧ HT.sIx xs.length xs.length hi = xs.length
  · refine ⟨"tuple", _, PyProof.Rows.slot_tuple_getitem.lookup, ht.typeIs, ?_⟩
    exact getItem_tuple_whole ht hs pl pu (by rw [hlen]; exact hw) ⟨.ref a, H, I, rfl, q1 hw⟩
  · refine ⟨"tuple", _, PyProof.Rows.slot_tuple_getitem.lookup, ht.typeIs, ?_⟩
    refine HT.getItem_tuple_cut ht hs pl pu (by rw [hlen]; exact hw) ?_ (by rw [hlen]; exact hz)
    rw [hlen]
    exact ⟨.ref s.heap.objs.size, _, tup_laid (t' := s.toks) I (fun b ob q => Heap.get?_push_of_some _ q) (Nat.le_refl _) (Heap.get?_push_size _ (by rfl)) ((r.drop (HT.sIx xs.length 0 lo)).take (HT.sIx xs.length xs.length hi - HT.sIx xs.length 0 lo)) (Nat.le_trans (cutV_length xs lo hi) hz), rfl, q2 hw _ _ rfl (I.hok.fresh (Nat.le_refl _))⟩
def rRepD (K : PySem.W.Frag) : R2 := fun x y H Q => ∃ l k xs, x = .ref l ∧ y = .int k ∧ SqT K H l xs ∧ xs ≠ [] ∧ 2 ≤ k ∧ k ≤ 1000 ∧ xs.length ≤ 1000 ∧ nT Q H (List.replicate k.toNat xs).flatten
theorem op_repD : OpR X (binaryOp .Mult) (rRepD X.K) := by
  intro pins s σ H x y v u Q I rx ry h
  obtain ⟨l, k, xs, rfl, rfl, hT, hne, h1, h2, hz, q⟩ := h
  cases rx
  obtain ⟨t, rfl⟩ := ry
  obtain ⟨its, r, ⟨⟨cls, dd, data, sl⟩, ho, hc, n, hd⟩, hs⟩ := I.tuple hT
  simp only at hc hd
  subst hc hd
  have hle : its.length = xs.length := r.length.symm
  have hn : its ≠ [] := fun e => hne (by
    rw [e] at hle
    exact List.eq_nil_of_length_eq_zero hle.symm)
  have hi : its.toArray.isEmpty = false := by
    cases its with
    | nil => exact absurd rfl hn
    | cons a b => rfl
  have hsz0 : its.toArray.size = xs.length := by rw [List.size_toArray, hle]
  have hm : ((its.toArray.size : Nat) : Int) * k ≤ 1000000 := by
    rw [hsz0]
    have a1 : ((xs.length : Nat) : Int) * k ≤ 1000 * k := Int.mul_le_mul_of_nonneg_right (by omega) (by omega)
    omega
  have flen : (List.replicate k.toNat its).flatten.length ≤ sizeLine := by
    rw [PyProof.Rows.lm_len_rep_flat, hle, sizeLine_eq]
    have a1 : k.toNat * xs.length ≤ 1000 * 1000 := Nat.mul_le_mul (by omega) hz
    omega
  have c0 : (decide (k < -(2 ^ 63)) || decide (k ≥ 2 ^ 63)) = false := by
    rw [decide_eq_false (by omega), decide_eq_false (by omega)] <;> rfl
  have c1 : (its.toArray.isEmpty || k == 1) = false := by
    rw [hi, Bool.false_or]
    exact beq_eq_false_iff_ne.mpr (by omega)
  have c2 : (decide (k ≤ 0) || its.toArray.isEmpty) = false := by
    rw [hi, Bool.or_false]
    exact decide_eq_false (by omega)
  have c4 : Builtin.Tuple.tupleTooMany (((its.toArray.size : Nat) : Int) * k) = false := by
    unfold Builtin.Tuple.tupleTooMany
    rw [sizeLine_eq]
    exact decide_eq_false (by omega)
  refine wpAny_binaryOp_repeat_ref (T := "tuple") (U := "int") (by decide) ⟨_, ho, rfl⟩ (fun s' => typeIs_int s' k t) noFill_tuple_mul PySem.F.fills_int_mul PySem.F.slot_int_rmul repeat_tuple PySem.F.slot_int_index.lookup
    (call_meets PySem.F.slot_int_rmul (typeIs_int s k t) PySem.F.entry_int_rmul (PySem.F.args_int_rmul_2 _ _) (int_rmul_tuple k t l its.toArray n dd sl)
      ⟨ho, rfl, ⟨_, ho, rfl⟩, call_meets PySem.F.slot_tuple_mul ⟨_, ho, rfl⟩ PySem.F.entry_tuple_mul (PySem.F.args_tuple_mul_2 _ _) (tuple_mulW l its.toArray n dd sl k t c0 c1 c2 (by omega) c4 (by rw [size_rep, List.size_toArray]; exact flen)) ⟨ho, ?_⟩⟩)
  rw [size_rep]
  exact ⟨.ref s.heap.objs.size, _, tup_laid (t' := s.toks) I (fun b ob q => Heap.get?_push_of_some _ q) (Nat.le_refl _) (Heap.get?_push_size _ rfl) (r.rep k.toNat) (by rw [PyProof.Rows.lm_len_rep_flat, sizeLine_eq]; have a1 : k.toNat * xs.length ≤ 1000 * 1000 := Nat.mul_le_mul (by omega) hz; omega), rfl, q _ _ rfl (I.hok.fresh (Nat.le_refl _))⟩
theorem call_tupleD : CallR X (.type "tuple") (fun xs H Q => ∃ p ys, xs = [.ref p] ∧ ((SqL X.K H p ys ∧ nT Q H ys) ∨ (SqT X.K H p ys ∧ Q (.ref p) H))) := by
  intro pins s σ H xs us Q I r h
  obtain ⟨p, ys, rfl, h⟩ := h
  obtain ⟨u, rfl, rx⟩ := vals1 r
  cases rx
  rcases h with ⟨hq, q⟩ | ⟨hq, q⟩
  · obtain ⟨its, r', pl, hz⟩ := I.list hq
    have hlen := r'.length
    refine call_tuple_list pl.isList (fun h' kp => ?_) (by simp only [List.size_toArray] <;> omega)
    have I1 : Inv X pins σ H { s with heap := h' } := I.kept (t' := s.toks) kp
    have I2 : Inv X pins σ (upd H h'.objs.size (.frz (tupO its) (.tup ys))) { s with heap := h'.push (tupO its) } := tup_laid (s := { s with heap := h' }) (t' := s.toks) I1 (fun b o e => Heap.get?_push_of_some _ e) (Nat.le_refl _) (Heap.get?_push_size _ rfl) r' hz
    exact ⟨.ref h'.objs.size, _, I2, rfl, q _ _ rfl (I1.hok.fresh (Nat.le_refl _))⟩
  · obtain ⟨its, r', pl, hz⟩ := I.tuple hq
    exact call_tuple_same pl ⟨.ref p, H, I, rfl, q⟩
def tTupRgD (te : L2.St → Hp → (Int → Int → Hp → Prop) → Prop) : TE := fun σ H Q => te σ H fun a b H1 => RgOk a b ∧ nT Q H1 (rgV a b)
theorem pe_tupRgD {e : Expr} {te : L2.St → Hp → (Int → Int → Hp → Prop) → Prop} {p pos : Pos} (hc : X.calm = true) (hg : Gl X "tuple") (hm : X.mg "tuple" = none) (he : PRg X e te) (na : starEach [e] X.env = (false, eval e X.env) :: starEach [] X.env := by rfl) : PE X (.Call (.Name "tuple" p) [e] [] pos) (tTupRgD te) := by
  refine ⟨fun pins s σ H Q I h => ?_⟩
  refine Call_ (ld_blt I hg hm boot_tuple (PyProof.Rows.callWith_type1 (args_cons (thn (he pins s σ H _ I h) fun x s1 ⟨r, a, b, t, u, v, H1, ex, hr, I1, ok, q⟩ => args_nil ?_) na) na))
  subst ex
  obtain ⟨b1, b2, b3, b4, b5⟩ := ok
  refine call_tuple_range (n := (b - a).toNat) (I1.ok.hd hc) hr (small_one b1 b2 b3 b4) (rangeSize_nat a b) b5 fun h' tk acc hk hi => ?_
  have I2 : Inv X pins σ H1 { s1 with heap := h', toks := tk } := I1.kept hk
  have eA : acc.toList.toArray = acc := by simp
  have I3 : Inv X pins σ (upd H1 h'.objs.size (.frz (tupO acc.toList) (.tup (rgV a b)))) { s1 with heap := h'.push { cls := .type "tuple", data := .seq acc }, toks := tk } := tup_laid (s := { s1 with heap := h', toks := tk }) (t' := tk) (its := acc.toList) I2 (fun c o e => Heap.get?_push_of_some _ e) (Nat.le_refl _) (by unfold tupO; rw [eA]; exact Heap.get?_push_size _ rfl) (vals_rg hi) (by rw [rgV_length, sizeLine_eq]; omega)
  exact ⟨.ref h'.objs.size, _, I3, rfl, q _ _ rfl (I2.hok.fresh (Nat.le_refl _))⟩
end
section
variable {prog : Program} {w : World} {A : Around} {E : Value → Shared → Prop} {s : Shared}
theorem sum_tup {l : Addr} {xs : Array (Int × Tok)} {Q : Value → Shared → Prop} (hh : A.handled = none) (hl : s.heap.IsTuple l (intItems xs))
    (h : ∀ h' tk t', (∀ b o, s.heap.get? b = some o → h'.get? b = some o) → Q (.int (preSum (numAt xs) xs.size) t') { s with heap := h', toks := tk }) :
    wpAny (model prog w) A (call (.builtin "sum") [.ref l]) Q E s := by
  have hlt : l < s.heap.objs.size := by obtain ⟨_, e, _⟩ := hl; exact Heap.lt_size e
  refine call_sum_walkG (wpAny_pyIter_tuple hl ?_)
  refine ⟨_, _, _, _, _, _, numAt xs, rfl, Walks.tuple (A := A.in1) hh _ l (Nat.ne_of_lt hlt) (intItems xs), ⟨⟨_, Heap.get?_push_size _ rfl, rfl, rfl⟩, hl.push _⟩, (fun b hb => ?_), (fun _ _ => intItems_at), fun h' tk t' hk => ?_⟩
  · show b < (s.heap.push _).objs.size
    rw [Heap.size_push]
    rcases List.mem_cons.mp hb with rfl | hb
    · exact Nat.lt_succ_self _
    · rcases List.mem_cons.mp hb with rfl | hb
      · exact Nat.lt_succ_of_lt hlt
      · cases hb
  · have := h h' tk t' fun b o e => by
      refine hk b o (fun hm => ?_) (Heap.get?_push_of_some _ e)
      rcases List.mem_cons.mp hm with e1 | hm
      · exact absurd (e1 ▸ Heap.lt_size e) (Nat.lt_irrefl _)
      · cases hm
    simpa [intItems] using this
theorem sum_rawT {l : Addr} {its : List Value} {ns : List Int} {Q : Value → Shared → Prop} (hh : A.handled = none) (hl : s.heap.IsTuple l its.toArray) (hi : IntsAre its ns)
    (h : ∀ h' tk t', (∀ b o, s.heap.get? b = some o → h'.get? b = some o) → Q (.int ns.sum t') { s with heap := h', toks := tk }) : wpAny (model prog w) A (call (.builtin "sum") [.ref l]) Q E s := by
  obtain ⟨xs, e⟩ := hi.allInts.items
  have hn : numsOf (intItems xs).toList = ns := by rw [← e]; exact hi.numsOf
  rw [nums_intItems] at hn
  rw [e] at hl
  refine sum_tup hh hl fun h' tk t' hk => ?_
  have := h h' tk t' hk
  rw [preSum_eq, List.take_of_length_le (by simp), hn]; exact this
end
section
variable {X : Cx}
def rSumT (K : PySem.W.Frag) : List V → Hp → VK → Prop := fun vs H Q => ∃ (a : Addr) (ns : List Int), vs = [V.ref a] ∧ SqT K H a (ns.map V.int) ∧ Q (.int ns.sum) H
theorem cr_sumT (hc : X.calm = true) : CallR X (.builtin "sum") (rSumT X.K) := by
  intro pins s σ H vs us Q I r h
  obtain ⟨a, ns, rfl, hs, q⟩ := h
  obtain ⟨its, rv, hl, _⟩ := I.tuple hs
  rw [Vals.ref1 r]
  exact sum_rawT (I.ok.hd hc) hl rv.ints fun h' tk t' hk => ⟨.int _, H, I.kept hk, ⟨_, rfl⟩, q⟩
end
end Ev

set_option Elab.async false
set_option linter.all false
set_option maxRecDepth 100000
set_option maxHeartbeats 1000000
/-! Operators, comparisons, truth, by values. -/
namespace Ev
open PySem PySem.Spec PyProof.Rows L2
def opOf : Op2 → Operator
  | .add => .Add | .sub => .Sub | .mul => .Mult | .fdiv => .FloorDiv | .mod => .Mod | .pow => .Pow
def cmOf : Cm → CmpOp
  | .eq => .Eq | .ne => .NotEq | .lt => .Lt | .le => .LtE | .gt => .Gt | .ge => .GtE | .isin => .In | .notin => .NotIn | .is => .Is | .isnot => .IsNot
def rOp (K : PySem.W.Frag) (o : Op2) : R2 := fun x y H Q => ∃ cs Av d e z, AvOk cs Av H ∧ Rw K cs Av H x d ∧ Rw K cs Av H y e ∧ op2 o d e = some z ∧ ∀ v H', Ext [] H H' → RpR K cs Av H H' v z → Q v H'
theorem maxLen_le : maxLen ≤ sizeLine := by rw [sizeLine_eq]; decide
theorem log2_of {i : Int} (h : big i = true) : i.natAbs.log2 < 4000 := by
  unfold big at h
  have h1 := of_decide_eq_true h
  exact PySem.Flt.log2_lt_of (by decide) h1
theorem tuple_mul1 (l : Addr) (items : Array Value) (n : Nat) (sl : Array (Option Value)) (u : Tok) (dd : Option Addr) :
    Meets (Builtin.«tuple.__mul__» ⟨[.ref l, .int 1 u], []⟩) (fun _ R s => s.heap.get? l = some { cls := .type "tuple", dict := dd, data := .seq items n, slots := sl } ∧ R (.ok (.ret (Value.ref l))) s) :=
  .of_wp fun prog w A R s h => by
    obtain ⟨hp, g, d, tk, os⟩ := s
    obtain ⟨hl, h⟩ := h
    have f1 := AutoSeq1.idx_int
    have c0 : (decide ((1 : Int) < -(2 ^ 63)) || decide ((1 : Int) ≥ 2 ^ 63)) = false := by decide
    have c1 : (items.isEmpty || (1 : Int) == 1) = true := by simp
    wp_walk using wpAny_loadPart' hl
    repeat (first
      | (refine wpAny_ite_false (decide_eq_false (by rw [c0]; exact Bool.false_ne_true)) ?_; wp_walk using wpAny_loadPart' hl)
      | (refine wpAny_ite_true (decide_eq_true (by rw [c1])) ?_; wp_walk using wpAny_loadPart' hl))
    all_goals exact ⟨_, rfl, h⟩
section
variable {X : Cx}
theorem tup_new {K : PySem.W.Frag} {cs : List Addr} {Av : Addr → Prop} {H : Hp} {p : Addr} {vs : List V} {ds : List D} {o : Obj} (ok : AvOk cs Av H) (ho : o.dict = none) (hp : H p = none) (r : Rps K cs Av H vs ds) :
    Rp K cs Av (upd H p (.frz o (.tup vs))) (.ref p) (.tuple ds) := .tup (SqD.new ho) (r.ext ok (Ext.upd hp))
theorem lst_new {K : PySem.W.Frag} {cs : List Addr} {Av : Addr → Prop} {H : Hp} {p : Addr} {vs : List V} {ds : List D} (ok : AvOk cs Av H) (hp : H p = none) (r : Rps K cs Av H vs ds) :
    RpR K cs Av H (upd H p (.lst vs)) (.ref p) (.o ds) := ⟨p, vs, rfl, hp, upd_same, r.new ok hp (Ext.upd hp)⟩
theorem op2_ok (o : Op2) : OpR X (binaryOp (opOf o)) (rOp X.K o) := by
  intro pins s σ H x y v u Q I rx ry h
  obtain ⟨cs, Av, d, e, z, ok, hx, hy, hz, q⟩ := h
  have ml := maxLen_le
  unfold op2 at hz
  split at hz
  · cases hz
    obtain rfl := hx.int
    obtain rfl := hy.int
    exact op_add pins s σ H _ _ v u Q I rx ry ⟨_, _, rfl, rfl, q _ _ (Ext.refl _ _) (.int _)⟩
  · rename_i a b
    split at hz
    · rename_i hl
      cases hz
      obtain ⟨p, vs, rfl, sp, rp⟩ := hx.tuple
      obtain ⟨p', us, rfl, sp', rp'⟩ := hy.tuple
      refine op_catD pins s σ H _ _ v u Q I rx ry ⟨_, _, vs, us, rfl, rfl, sp.t, sp'.t, by rw [rp.length, rp'.length]; omega, ?_, ?_, ?_⟩
      · intro e
        subst e
        cases rp
        exact q _ _ (Ext.refl _ _) (.tup sp' rp')
      · intro _ e
        subst e
        cases rp'
        exact q _ _ (Ext.refl _ _) (by rw [List.append_nil]; exact .tup sp rp)
      · intro _ _ p o ho np
        exact q _ _ (Ext.upd np) (tup_new ok ho np (rp.append rp'))
    · cases hz
  · rename_i a b
    split at hz
    · rename_i hl
      cases hz
      obtain ⟨p, vs, rfl, sp, rp⟩ := hx.list
      obtain ⟨p', us, rfl, sp', rp'⟩ := hy.list
      obtain ⟨its, rv, ⟨⟨cls, dd, data, sls⟩, n, ho, hc, hdn, hdt⟩, hlen⟩ := I.list sp
      obtain ⟨its2, rv2, ⟨⟨cls2, dd2, data2, sls2⟩, n2, ho2, hc2, hdn2, hdt2⟩, hlen2⟩ := I.list sp'
      simp only at hc hdt hc2 hdt2
      subst hc hdt hc2 hdt2
      cases rx
      cases ry
      have l1 := rv.length
      have l2 := rv2.length
      have l3 := rp.length
      have l4 := rp'.length
      have ea : its.toArray ++ its2.toArray = (its ++ its2).toArray := by simp
      refine concat_meets ⟨_, ho, rfl⟩ ⟨_, ho2, rfl⟩ noFill_list_add seq_list_add PySem.F.slot_list_add PySem.F.entry_list_add (PySem.F.args_list_add_2 _ _) (list_addW p p' its.toArray its2.toArray n n2 dd dd2 sls sls2 (by simp; omega)) ⟨ho, ho2, ?_⟩
      rw [ea]
      exact ⟨.ref _, _, I.lnew (t' := s.toks) (rv.append rv2) (by rw [List.length_append]; omega), rfl, q _ _ (Ext.upd I.fresh) (lst_new ok I.fresh (rp.append rp'))⟩
    · cases hz
  · rename_i a b
    split at hz
    · rename_i hl
      cases hz
      obtain rfl := hx.str
      obtain rfl := hy.str
      exact op_add_str pins s σ H _ _ v u Q I rx ry ⟨_, _, rfl, rfl, by omega, q _ _ (Ext.refl _ _) (.str _)⟩
    · cases hz
  · cases hz
    obtain rfl := hx.int
    obtain rfl := hy.int
    exact op_sub pins s σ H _ _ v u Q I rx ry ⟨_, _, rfl, rfl, q _ _ (Ext.refl _ _) (.int _)⟩
  · split at hz
    · rename_i hl
      cases hz
      rw [Bool.and_eq_true] at hl
      obtain rfl := hx.int
      obtain rfl := hy.int
      have h1 := log2_of hl.1
      have h2 := log2_of hl.2
      exact op_mulW pins s σ H _ _ v u Q I rx ry ⟨_, _, rfl, rfl, by show _ + _ < _; omega, q _ _ (Ext.refl _ _) (.int _)⟩
    · cases hz
  · rename_i a j
    split at hz
    · rename_i hl
      cases hz
      simp only [Bool.and_eq_true, decide_eq_true_eq] at hl
      obtain ⟨⟨⟨h0, h1⟩, h2⟩, h3⟩ := hl
      obtain ⟨p, vs, rfl, sp, rp⟩ := hx.tuple
      obtain rfl := hy.int
      have l3 := rp.length
      have hne : vs ≠ [] := fun e => by
        subst e
        cases rp
        simp at h3
      by_cases hj : j = 1
      · subst hj
        cases rx
        obtain ⟨t, rfl⟩ := ry
        obtain ⟨its, rv, ⟨⟨cls, dd, data, sl⟩, ho, hc, n, hd⟩, hs⟩ := I.tuple sp.t
        simp only at hc hd
        subst hc hd
        refine wpAny_binaryOp_repeat_ref (T := "tuple") (U := "int") (by decide) ⟨_, ho, rfl⟩ (fun s' => typeIs_int s' 1 t) noFill_tuple_mul PySem.F.fills_int_mul PySem.F.slot_int_rmul repeat_tuple PySem.F.slot_int_index.lookup
          (call_meets PySem.F.slot_int_rmul (typeIs_int s 1 t) PySem.F.entry_int_rmul (PySem.F.args_int_rmul_2 _ _) (int_rmul_tuple 1 t p its.toArray n dd sl)
            ⟨ho, rfl, ⟨_, ho, rfl⟩, call_meets PySem.F.slot_tuple_mul ⟨_, ho, rfl⟩ PySem.F.entry_tuple_mul (PySem.F.args_tuple_mul_2 _ _) (tuple_mul1 p its.toArray n sl t dd) ⟨ho, ?_⟩⟩)
        exact ⟨.ref p, H, I, rfl, q _ _ (Ext.refl _ _) (show Rp _ _ _ _ _ _ from by simpa using Rp.tup sp rp)⟩
      · exact op_repD pins s σ H _ _ v u Q I rx ry ⟨p, j, vs, rfl, rfl, sp.t, hne, by omega, h1, by omega, fun p' o ho np => q _ _ (Ext.upd np) (tup_new ok ho np (rp.rep _))⟩
    · cases hz
  · split at hz
    · rename_i hl
      cases hz
      rw [Bool.and_eq_true, decide_eq_true_eq] at hl
      obtain rfl := hx.int
      obtain rfl := hy.int
      have h2 := log2_of hl.2
      exact op_fdivW pins s σ H _ _ v u Q I rx ry ⟨_, _, rfl, rfl, ⟨hl.1, by omega⟩, q _ _ (Ext.refl _ _) (.int _)⟩
    · cases hz
  · split at hz
    · rename_i hl
      cases hz
      rw [decide_eq_true_eq] at hl
      obtain rfl := hx.int
      obtain rfl := hy.int
      exact op_mod pins s σ H _ _ v u Q I rx ry ⟨_, _, rfl, rfl, hl, q _ _ (Ext.refl _ _) (.int _)⟩
    · cases hz
  · rename_i i j
    split at hz
    · rename_i hl
      cases hz
      simp only [Bool.and_eq_true, decide_eq_true_eq] at hl
      obtain ⟨⟨h0, h1⟩, h2⟩ := hl
      obtain rfl := hx.int
      obtain rfl := hy.int
      obtain ⟨t, rfl⟩ := rx
      obtain ⟨t', rfl⟩ := ry
      have hb : Builtin.Int.intBits i ≤ 1000 := by
        have h3 : i.natAbs.log2 < 1000 := PySem.Flt.log2_lt_of (by decide) h2
        unfold Builtin.Int.intBits
        split <;> omega
      refine pow_int h0 ?_ ⟨.int _, H, I.tok _, ⟨_, rfl⟩, q _ _ (Ext.refl _ _) (.int _)⟩
      have h4 : (Builtin.Int.intBits i : Int) * j ≤ 1000 * 1000 := by
        have a1 : (Builtin.Int.intBits i : Int) ≤ 1000 := by exact_mod_cast hb
        have a2 : (Builtin.Int.intBits i : Int) * j ≤ 1000 * j := Int.mul_le_mul_of_nonneg_right a1 h0
        omega
      omega
    · cases hz
  · cases hz

def rCm (K : PySem.W.Frag) (o : Cm) : R2 := fun x y H Q => ∃ cs Av d e z, AvOk cs Av H ∧ Rw K cs Av H x d ∧ Rw K cs Av H y e ∧ cmp2 o d e = some z ∧ ∀ v, RpR K cs Av H H v (.v z) → Q v H
theorem Inv.rd {pins : List (Addr × Obj)} {s : Shared} {σ : L2.St} {H : Hp} {cs : List Addr} {Av : Addr → Prop} {x : V} {v : Value} {d : D} (I : Inv X pins σ H s) (rx : RelV x v) (h : Rw X.K cs Av H x d) (p : d.plain = true) : ∃ as, Reads s.heap v d as :=
  Dp.reads I d x v (h.dp p) rx
theorem cm_ok (hu : X.A.units + 100 < cLine) (o : Cm) : OpR X (compareOp (cmOf o)) (rCm X.K o) := by
  intro pins s σ H x y v u Q I rx ry h
  obtain ⟨cs, Av, d, e, z, ok, hx, hy, hz, q⟩ := h
  unfold cmp2 at hz
  split at hz
  · rename_i a b
    split at hz
    · rename_i hl
      cases hz
      rw [Bool.and_eq_true] at hl
      obtain ⟨p1, d1⟩ := shal_plain hl.1
      obtain ⟨p2, d2⟩ := shal_plain hl.2
      obtain ⟨as, r1⟩ := Inv.rd I rx hx p1
      obtain ⟨bs, r2⟩ := Inv.rd I ry hy p2
      exact SeqAt.eq_plain r1 r2 p1 p2 (by omega) ⟨.bl _, H, I, rfl, q _ (.bl _)⟩
    · cases hz
  · rename_i a b
    split at hz
    · rename_i hl
      cases hz
      rw [Bool.and_eq_true] at hl
      obtain ⟨p1, d1⟩ := shal_plain hl.1
      obtain ⟨p2, d2⟩ := shal_plain hl.2
      obtain ⟨as, r1⟩ := Inv.rd I rx hx p1
      obtain ⟨bs, r2⟩ := Inv.rd I ry hy p2
      exact SeqAt.ne_plain r1 r2 p1 p2 (by omega) ⟨.bl _, H, I, rfl, q _ (.bl _)⟩
    · cases hz
  · cases hz
    obtain rfl := hx.int
    obtain rfl := hy.int
    exact op_lt pins s σ H _ _ v u Q I rx ry ⟨_, _, rfl, rfl, q _ (.bl _)⟩
  · cases hz
    obtain rfl := hx.int
    obtain rfl := hy.int
    exact op_le pins s σ H _ _ v u Q I rx ry ⟨_, _, rfl, rfl, q _ (.bl _)⟩
  · cases hz
    obtain rfl := hx.int
    obtain rfl := hy.int
    exact op_gt pins s σ H _ _ v u Q I rx ry ⟨_, _, rfl, rfl, q _ (.bl _)⟩
  · cases hz
    obtain rfl := hx.int
    obtain rfl := hy.int
    exact op_ge pins s σ H _ _ v u Q I rx ry ⟨_, _, rfl, rfl, q _ (.bl _)⟩
  · rename_i a b
    simp only [lt2] at hz
    split at hz
    · rename_i hl
      simp only [Option.map_some, Option.some.injEq] at hz
      subst hz
      simp only [Bool.and_eq_true] at hl
      obtain ⟨⟨h0, h1⟩, h2⟩ := hl
      obtain ⟨p1, d1⟩ := shal_plain h1
      obtain ⟨p2, d2⟩ := shal_plain h2
      obtain ⟨as, r1⟩ := Inv.rd I rx hx p1
      obtain ⟨bs, r2⟩ := Inv.rd I ry hy p2
      exact PySem.W.rcLt_alike _ _ X.A s v u as bs r1 r2 h0 (by simp) (by omega) X.prog X.w _ _ ⟨.bl _, H, I, rfl, q _ (.bl _)⟩
    · simp at hz
  · rename_i b
    split at hz
    · rename_i hl
      cases hz
      rw [Bool.and_eq_true] at hl
      obtain ⟨p1, d1⟩ := shal_plain hl.1
      obtain ⟨p2, d2⟩ := shal_plain hl.2
      obtain ⟨as, r1⟩ := Inv.rd I rx hx p1
      obtain ⟨bs, r2⟩ := Inv.rd I ry hy p2
      exact SeqAt.in_tuple_data r2 r1 (by simpa [PyData.plain] using p2) p1 (by omega) ⟨.bl _, H, I, rfl, q _ (.bl _)⟩
    · cases hz
  · rename_i b
    split at hz
    · rename_i hl
      cases hz
      rw [Bool.and_eq_true] at hl
      obtain ⟨p1, d1⟩ := shal_plain hl.1
      obtain ⟨p2, d2⟩ := shal_plain hl.2
      obtain ⟨as, r1⟩ := Inv.rd I rx hx p1
      obtain ⟨bs, r2⟩ := Inv.rd I ry hy p2
      exact SeqAt.in_list_data r2 r1 (by simpa [PyData.plain] using p2) p1 (by omega) ⟨.bl _, H, I, rfl, q _ (.bl _)⟩
    · cases hz
  · rename_i b
    split at hz
    · rename_i hl
      cases hz
      rw [Bool.and_eq_true] at hl
      obtain ⟨p1, d1⟩ := shal_plain hl.1
      obtain ⟨p2, d2⟩ := shal_plain hl.2
      obtain ⟨as, r1⟩ := Inv.rd I rx hx p1
      obtain ⟨bs, r2⟩ := Inv.rd I ry hy p2
      exact SeqAt.notIn_tuple_data r2 r1 (by simpa [PyData.plain] using p2) p1 (by omega) ⟨.bl _, H, I, rfl, q _ (.bl _)⟩
    · cases hz
  · rename_i b
    split at hz
    · rename_i hl
      cases hz
      rw [Bool.and_eq_true] at hl
      obtain ⟨p1, d1⟩ := shal_plain hl.1
      obtain ⟨p2, d2⟩ := shal_plain hl.2
      obtain ⟨as, r1⟩ := Inv.rd I rx hx p1
      obtain ⟨bs, r2⟩ := Inv.rd I ry hy p2
      exact SeqAt.notIn_list_data r2 r1 (by simpa [PyData.plain] using p2) p1 (by omega) ⟨.bl _, H, I, rfl, q _ (.bl _)⟩
    · cases hz
  · cases hz
    have hy' : y = .non := by
      rcases hy with hy | ⟨_, _, _, rfl, e, _⟩
      · cases hy; rfl
      · cases e
    subst hy'
    exact op_isN pins s σ H _ _ v u Q I rx ry ⟨rfl, by rw [hx.none_iff]; exact q _ (.bl _)⟩
  · cases hz
    have hy' : y = .non := by
      rcases hy with hy | ⟨_, _, _, rfl, e, _⟩
      · cases hy; rfl
      · cases e
    subst hy'
    exact op_notN pins s σ H _ _ v u Q I rx ry ⟨rfl, by rw [hx.none_iff]; exact q _ (.bl _)⟩
  · cases hz

/-- truth -/
theorem tru_of {K : PySem.W.Frag} {cs : List Addr} {Av : Addr → Prop} {H : Hp} {x : V} {d : D} {k : Bool} (hx : Rw K cs Av H x d) (h : truth d = some k) : TruV K x H k := by
  unfold truth at h
  split at h
  · cases h
    rcases hx with hx | ⟨_, _, _, rfl, e, _⟩
    · cases hx; rfl
    · cases e
  · cases h
    obtain rfl := hx.bool
    rfl
  · cases h
    obtain rfl := hx.int
    rfl
  · cases h
    obtain ⟨p, vs, rfl, sp, rp⟩ := hx.tuple
    refine .inr (.inl ⟨vs, sp.t, ?_⟩)
    cases rp <;> rfl
  · cases h
    obtain ⟨p, vs, rfl, sp, rp⟩ := hx.list
    refine .inl ⟨vs, sp, ?_⟩
    cases rp <;> rfl
  · cases h
end
end Ev

set_option Elab.async false
set_option linter.all false
set_option maxRecDepth 100000
set_option maxHeartbeats 1000000
/-! Built-in calls, subscripts, slices, by values; sorting as a plain function. -/
namespace Ev
open PySem PySem.Spec PyProof.Rows L2

/-! ### sorting -/
section
variable {α : Type} (le : α → α → Bool)
def insG (x : α) : List α → List α
  | [] => [x]
  | y :: r => if le x y then x :: y :: r else y :: insG x r
def sortG : List α → List α
  | [] => []
  | x :: r => insG le x (sortG r)
variable {le}
theorem insG_mem {x z : α} : ∀ {l : List α}, z ∈ insG le x l ↔ z = x ∨ z ∈ l
  | [] => by simp [insG]
  | y :: r => by
    unfold insG
    split
    · simp
    · simp only [List.mem_cons, insG_mem (l := r)]
      constructor
      · rintro (h | h | h) <;> simp [h]
      · rintro (h | h | h) <;> simp [h]
theorem insG_pair (h : PySem.W.TotalLe le) {x : α} : ∀ {l : List α}, l.Pairwise (fun a b => le a b = true) → (insG le x l).Pairwise (fun a b => le a b = true)
  | [], _ => by simp [insG]
  | y :: r, p => by
    obtain ⟨p1, p2⟩ := List.pairwise_cons.mp p
    unfold insG
    split
    · rename_i hx
      refine List.pairwise_cons.mpr ⟨fun z hz => ?_, p⟩
      rcases List.mem_cons.mp hz with rfl | hz
      · exact hx
      · exact h.trans _ _ _ hx (p1 z hz)
    · rename_i hx
      refine List.pairwise_cons.mpr ⟨fun z hz => ?_, insG_pair h p2⟩
      rcases insG_mem.mp hz with rfl | hz
      · exact (h.total y z).resolve_right hx
      · exact p1 z hz
theorem insG_filter (h : PySem.W.TotalLe le) {x c : α} : ∀ {l : List α}, l.Pairwise (fun a b => le a b = true) → (insG le x l).filter (PySem.W.sameRank le c) = (x :: l).filter (PySem.W.sameRank le c)
  | [], _ => rfl
  | y :: r, p => by
    obtain ⟨p1, p2⟩ := List.pairwise_cons.mp p
    unfold insG
    split
    · rfl
    · rename_i hx
      have ih := insG_filter h (x := x) (c := c) p2
      rw [List.filter_cons, ih, List.filter_cons, List.filter_cons, List.filter_cons]
      by_cases hy : PySem.W.sameRank le c y = true
      · have hxc : PySem.W.sameRank le c x = false := by
          cases q : PySem.W.sameRank le c x with
          | false => rfl
          | true =>
            unfold PySem.W.sameRank at hy q
            simp only [Bool.and_eq_true] at hy q
            exact absurd (h.trans _ _ _ q.2 hy.1) hx
        simp [hy, hxc]
      · simp [hy]
theorem sortG_pair (h : PySem.W.TotalLe le) : ∀ (l : List α), (sortG le l).Pairwise (fun a b => le a b = true)
  | [] => by simp [sortG]
  | x :: r => insG_pair h (sortG_pair h r)
theorem sortG_filter (h : PySem.W.TotalLe le) (c : α) : ∀ (l : List α), (sortG le l).filter (PySem.W.sameRank le c) = l.filter (PySem.W.sameRank le c)
  | [] => rfl
  | x :: r => by
    show (insG le x (sortG le r)).filter _ = _
    rw [insG_filter h (sortG_pair h r), List.filter_cons, List.filter_cons, sortG_filter h c r]
theorem sortG_merge (h : PySem.W.TotalLe le) (l : List α) : sortG le l = l.mergeSort le :=
  PySem.W.sort_unique h (sortG_pair h l) (fun c => sortG_filter h c l)
end
theorem insBy_eq (le : D → D → Bool) (x : D) : ∀ l : List D, insBy le x l = insG le x l
  | [] => rfl
  | y :: r => by unfold insBy insG; rw [insBy_eq le x r]
theorem sortBy_eq (le : D → D → Bool) : ∀ l : List D, sortBy le l = sortG le l
  | [] => rfl
  | x :: r => by unfold sortBy sortG; rw [sortBy_eq le r, insBy_eq]
theorem dLe_eq : dLe = PySem.W.dataLe false (fun d : D => d) := by
  funext a b
  rw [PySem.W.dataLe_eq]
  show dLe a b = !PySem.W.dataLt b a
  unfold dLe
  split
  · rename_i i j
    rw [PySem.W.dataLt_int]
    by_cases h : i ≤ j
    · simp [h, Int.not_lt.mpr h]
    · simp [h, Int.not_le.mp h]
  · rfl
theorem dLe_total : PySem.W.TotalLe dLe := by rw [dLe_eq]; exact PySem.W.sortLe_total _ _ _
theorem sort_data (l : List D) : sortBy dLe l = l.mergeSort (PySem.W.dataLe false (fun d : D => d)) := by
  rw [sortBy_eq, sortG_merge dLe_total, dLe_eq]
theorem alike_of {xs : List D} (h : allAlike xs = true) : PySem.W.AllAlike xs := by
  unfold allAlike at h
  intro d hd d' hd'
  exact List.all_eq_true.mp (List.all_eq_true.mp h d hd) d' hd'
theorem sortable_of {xs : List D} (h : sortable xs = true) : PySem.W.Sortable xs := by
  unfold sortable at h
  rcases Bool.or_eq_true _ _ |>.mp h with h | h
  · left
    intro d hd
    have := List.all_eq_true.mp h d hd
    split at this
    · exact ⟨_, _, rfl⟩
    · cases this
  · right
    intro d hd
    have := List.all_eq_true.mp h d hd
    split at this
    · exact ⟨by simp, by simp⟩
    · exact ⟨by simp, by simp⟩
    · cases this
theorem depth_mem {xs : List D} {d : D} : d ∈ xs → d.depth ≤ PyData.depthAll xs := by
  induction xs with
  | nil => intro h; cases h
  | cons x xs ih =>
    intro h
    simp only [PyData.depthAll]
    rcases List.mem_cons.mp h with rfl | h
    · omega
    · have := ih h; omega
theorem plain_mem {xs : List D} {d : D} (p : PyData.plainAll xs = true) : d ∈ xs → d.plain = true := by
  induction xs with
  | nil => intro h; cases h
  | cons x xs ih =>
    intro h
    simp only [PyData.plainAll, Bool.and_eq_true] at p
    rcases List.mem_cons.mp h with rfl | h
    · exact p.1
    · exact ih p.2 h

/-! ### calls -/
def bltV : Bl → Value
  | .len => .builtin "len" | .abs => .builtin "abs" | .max2 => .builtin "max" | .min2 => .builtin "min" | .int => .type "int" | .str => .type "str" | .repr => .builtin "repr"
  | .tuple => .type "tuple" | .list => .type "list" | .sorted => .builtin "sorted" | .sum => .builtin "sum" | .all => .builtin "all" | .any => .builtin "any" | .max1 => .builtin "max" | .min1 => .builtin "min"
inductive Rws (K : PySem.W.Frag) (cs : List Addr) (Av : Addr → Prop) (H : Hp) : List V → List D → Prop
  | nil : Rws K cs Av H [] []
  | cons {v : V} {vs : List V} {d : D} {ds : List D} : Rw K cs Av H v d → Rws K cs Av H vs ds → Rws K cs Av H (v :: vs) (d :: ds)
theorem Rws.one {K : PySem.W.Frag} {cs : List Addr} {Av : Addr → Prop} {H : Hp} {vs : List V} {d : D} (h : Rws K cs Av H vs [d]) : ∃ v, vs = [v] ∧ Rw K cs Av H v d := by
  cases h with
  | cons r t => cases t; exact ⟨_, rfl, r⟩
theorem Rws.two {K : PySem.W.Frag} {cs : List Addr} {Av : Addr → Prop} {H : Hp} {vs : List V} {d e : D} (h : Rws K cs Av H vs [d, e]) : ∃ v u, vs = [v, u] ∧ Rw K cs Av H v d ∧ Rw K cs Av H u e := by
  cases h with
  | cons r t =>
    obtain ⟨u, rfl, q⟩ := t.one
    exact ⟨_, _, rfl, r, q⟩
def rBl (K : PySem.W.Frag) (b : Bl) : List V → Hp → VK → Prop := fun vs H Q => ∃ cs Av ds z, AvOk cs Av H ∧ Rws K cs Av H vs ds ∧ blt b ds = some z ∧ ∀ v H', Ext [] H H' → RpR K cs Av H H' v z → Q v H'
section
variable {X : Cx}
theorem rps_out {K : PySem.W.Frag} {cs : List Addr} {Av : Addr → Prop} {H : Hp} : ∀ {out : List Value} {ds : List D}, PySem.W.EachIs (fun (v : Value) (d : D) => ∃ x, RelV x v ∧ Rp K cs Av H x d) out ds → ∃ xs, Vals xs out ∧ Rps K cs Av H xs ds
  | _, _, .nil => ⟨[], .nil, .nil⟩
  | _, _, .cons ⟨x, h1, h2⟩ t => by
    obtain ⟨xs, h3, h4⟩ := rps_out t
    exact ⟨x :: xs, .cons h1 h3, .cons h2 h4⟩
theorem rps_in {K : PySem.W.Frag} {cs : List Addr} {Av : Addr → Prop} {H : Hp} : ∀ {xs : List V} {us : List Value} {ds : List D}, Vals xs us → Rps K cs Av H xs ds → PySem.W.EachIs (fun (v : Value) (d : D) => ∃ x, RelV x v ∧ Rp K cs Av H x d) us ds
  | _, _, _, .nil, .nil => .nil
  | _, _, _, .cons r t, .cons q s => .cons ⟨_, r, q⟩ (rps_in t s)
theorem each_reads {pins : List (Addr × Obj)} {s : Shared} {σ : L2.St} {H : Hp} {cs : List Addr} {Av : Addr → Prop} (I : Inv X pins σ H s) : ∀ {us : List Value} {ds : List D}, PySem.W.EachIs (fun (v : Value) (d : D) => ∃ x, RelV x v ∧ Rp X.K cs Av H x d) us ds → PyData.plainAll ds = true → PySem.W.EachIs (fun v d => ∃ as, Reads s.heap v d as) us ds
  | _, _, .nil, _ => .nil
  | _, _, .cons ⟨x, h1, h2⟩ t, p => by
    simp only [PyData.plainAll, Bool.and_eq_true] at p
    exact .cons (Dp.reads I _ _ _ (h2.dp p.1) h1) (each_reads I t p.2)
mutual
theorem noDict_of : ∀ {d : D}, d.plain = true → d.hasDict = false
  | .none, _ => rfl
  | .bool _, _ => rfl
  | .int _, _ => rfl
  | .str _, _ => rfl
  | .list xs, h => by
    simp only [PyData.hasDict]
    exact noDicts_of (by simpa [PyData.plain] using h)
  | .tuple xs, h => by
    simp only [PyData.hasDict]
    exact noDicts_of (by simpa [PyData.plain] using h)
  | .dict _, h => by simp [PyData.plain] at h
theorem noDicts_of : ∀ {ds : List D}, PyData.plainAll ds = true → PyData.hasDictAll ds = false
  | [], _ => rfl
  | x :: xs, h => by
    simp only [PyData.plainAll, Bool.and_eq_true] at h
    simp only [PyData.hasDictAll, noDict_of h.1, noDicts_of h.2, Bool.or_self]
end
theorem bl_repr (hg : X.A.guards = some []) (hu : X.A.units + 100 < cLine) {pins : List (Addr × Obj)} {s : Shared} {σ : L2.St} {H : Hp} {x : V} {v : Value} {d : D} {Q : VK} (I : Inv X pins σ H s) (rx : RelV x v) (hd : Dp X.K H x d) (hs : d.showable = true) (hp : d.plain = true) (hdp : d.depth ≤ 20) (hz : d.shown.length ≤ maxLen)
    (q : Q (.str d.shown) H) : wpAny (model X.prog X.w) X.A (call (.builtin "repr") [v]) (EP X pins σ Q) X.xe s := by
  have ml := maxLen_le
  have nd : d.hasDict = true → sysModules ∉ ([] : List Addr) := fun _ h => by cases h
  cases hd with
  | non =>
    cases rx
    exact PySem.P.repr_of_none ⟨.str _, H, I.tok _, ⟨_, rfl⟩, q⟩
  | bl b =>
    cases rx
    exact PySem.P.repr_of_bool ⟨.str _, H, I.tok _, ⟨_, rfl⟩, by cases b <;> exact q⟩
  | int i =>
    obtain ⟨t, rfl⟩ := rx
    exact PySem.P.repr_of_int (by simpa [PyData.showable] using hs) ⟨.str _, H, I.tok _, ⟨_, rfl⟩, q⟩
  | str y =>
    obtain ⟨t, rfl⟩ := rx
    exact PySem.P.repr_of_str ⟨.str _, H, I.tok _, ⟨_, rfl⟩, q⟩ (by simp only [PyData.shown] at hz; omega)
  | lst h1 h2 =>
    obtain ⟨as, r⟩ := Dp.reads I _ _ v (.lst h1 h2) rx
    cases rx
    have hnd := noDict_of hp
    exact repr_of_reads' r hs (fun e => by rw [hnd] at e; cases e) hg (by omega) (fun _ _ e => e) (fun h' u tk hk => ⟨.str _, H, I.kept hk, ⟨_, rfl⟩, q⟩) (by omega)
  | tup h1 h2 =>
    obtain ⟨as, r⟩ := Dp.reads I _ _ v (.tup h1 h2) rx
    cases rx
    have hnd := noDict_of hp
    exact repr_of_reads' r hs (fun e => by rw [hnd] at e; cases e) hg (by omega) (fun _ _ e => e) (fun h' u tk hk => ⟨.str _, H, I.kept hk, ⟨_, rfl⟩, q⟩) (by omega)
theorem scal_reads {h : Heap} {K : PySem.W.Frag} {cs : List Addr} {Av : Addr → Prop} {H : Hp} {x : V} {v : Value} {d : D} (hs : scal d = true) (rp : Rp K cs Av H x d) (r : RelV x v) : Reads h v d [] := by
  cases d <;> first | (cases hs; done) | (cases rp)
  case none => cases r; exact .none
  case bool => cases r; exact .bool _
  case int => obtain ⟨t, rfl⟩ := r; exact .int _ _
  case str => obtain ⟨t, rfl⟩ := r; exact .str _ _
theorem kv_reads {P : Program} {w : World} {h : Heap} {K : PySem.W.Frag} {cs : List Addr} {Av : Addr → Prop} {H : Hp} : ∀ {es : List DictEntry} {kvs : List (L2.Key × Value)} {ks : List L2.Key} {vs : List V} {ds : List D}, Pairs (mixKind P w) es kvs → KV (ks.zip vs) kvs → ks.length = ds.length → Rps K cs Av H vs ds → (ds.all scal) = true →
    ReadsAll h (es.map (·.key)) (((ks.zip ds).map fun p => (kD p.1, p.2)).map (·.1)) [] ∧ ReadsAll h (es.map (·.val)) (((ks.zip ds).map fun p => (kD p.1, p.2)).map (·.2)) []
  | es, kvs, [], vs, ds, hp, hk, hl, rs, _ => by
    cases ds with
    | cons => simp at hl
    | nil =>
      have e : kvs = [] := by
        have hk : KV ([] : List (L2.Key × V)) kvs := by simpa using hk
        cases hk; rfl
      subst e
      cases hp
      exact ⟨.nil, .nil⟩
  | es, kvs, k :: ks, vs, ds, hp, hk, hl, rs, hsc => by
    cases rs with
    | nil => simp at hl
    | cons r rs =>
      rename_i v vs d ds
      have hk : KV ((k, v) :: ks.zip vs) kvs := hk
      cases hk with
      | cons q qs =>
        cases hp with
        | cons h1 h2 h3 =>
          rw [List.all_cons, Bool.and_eq_true] at hsc
          obtain ⟨a, b⟩ := kv_reads (h := h) (ks := ks) h3 qs (by simpa using hl) rs hsc.2
          rename_i kv _ e _
          have hkey : Reads h e.key (kD k) [] := by
            have h1 : keyIs kv.1 e.key = true := h1
            rw [← q.1] at h1
            rcases keyIs_shape h1 with ⟨i, t, e1, e2⟩ | ⟨x, t, e1, e2⟩
            · have e1 : k = .inl i := e1
              rw [e1, e2]; exact .int _ _
            · have e1 : k = .inr x := e1
              rw [e1, e2]; exact .str _ _
          have hval : Reads h e.val d [] := scal_reads hsc.1 r (by rw [h2]; exact q.2)
          exact ⟨ReadsAll.cons hkey a, ReadsAll.cons hval b⟩
mutual
theorem Rp.readsF {pins : List (Addr × Obj)} {s : Shared} {σ : L2.St} {H : Hp} {cs : List Addr} {Av : Addr → Prop} (I : Inv X pins σ H s) : ∀ {x : V} {v : Value} {d : D}, Rp X.K cs Av H x d → RelV x v → lfree d = true → ∃ as, Reads s.heap v d as ∧ sysModules ∉ as
  | _, _, _, .non, r, _ => by cases r; exact ⟨_, .none, by simp⟩
  | _, _, _, .bl b, r, _ => by cases r; exact ⟨_, .bool b, by simp⟩
  | _, _, _, .int i, r, _ => by obtain ⟨t, rfl⟩ := r; exact ⟨_, .int i t, by simp⟩
  | _, _, _, .str x, r, _ => by obtain ⟨t, rfl⟩ := r; exact ⟨_, .str x t, by simp⟩
  | _, _, _, .lst _ _ _, _, hl => by simp [lfree] at hl
  | _, _, _, .tup h rs, r, hl => by
    cases r
    obtain ⟨its, rv, ⟨o, ho, hc, n, hd⟩, _⟩ := I.tuple h.t
    obtain ⟨as, ra, hn⟩ := Rps.readsF I rs rv (by simpa only [lfree] using hl)
    exact ⟨_, .tuple ho hc hd (by simpa using ra), hn⟩
  | _, _, _, .cell _, _, hl => by simp [lfree, kOf] at hl
  | _, _, _, .dct (ks := ks) (vs := vs) (ds := ds) hH h0 hlen rs hk, r, hl => by
    cases r
    obtain ⟨hz, hsys, kvs, hkv, o, es, ep, hg, hex, hdt, hks, hps, hnd⟩ := I.hok _ _ hH
    subst hk
    have hsc : ds.all scal = true := by
      simp only [lfree, List.all_map, List.all_eq_true] at hl
      rw [List.all_eq_true]
      intro d hd
      obtain ⟨i, hi, rfl⟩ := List.getElem_of_mem hd
      have hi' : i < (ks.zip ds).length := by rw [List.length_zip]; omega
      have := hl (ks.zip ds)[i] (List.getElem_mem hi')
      simp only [Function.comp, List.getElem_zip, Bool.and_eq_true] at this
      exact this.2
    obtain ⟨a, b⟩ := kv_reads (h := s.heap) hps hkv hlen rs hsc
    exact ⟨_, .dict hg hex.1 hdt a b, by simpa using fun e => by rw [← e] at hsys; simp at hsys⟩
  | _, _, _, .dct0 hH, r, _ => by
    cases r
    obtain ⟨hz, hsys, xs, hp, o, es, ep, hg, hex, hdt, he, hnd⟩ := I.hok _ _ hH
    cases hp
    have he : es.toList = [] := he
    exact ⟨_, .dict hg hex.1 hdt (by rw [he]; exact .nil) (by rw [he]; exact .nil), by simpa using fun e => by rw [← e] at hsys; simp at hsys⟩
theorem Rps.readsF {pins : List (Addr × Obj)} {s : Shared} {σ : L2.St} {H : Hp} {cs : List Addr} {Av : Addr → Prop} (I : Inv X pins σ H s) : ∀ {xs : List V} {vs : List Value} {ds : List D}, Rps X.K cs Av H xs ds → Vals xs vs → lfrees ds = true → ∃ as, ReadsAll s.heap vs ds as ∧ sysModules ∉ as
  | _, _, _, .nil, r, _ => by cases r; exact ⟨_, .nil, by simp⟩
  | _, _, _, .cons h hs, r, hl => by
    cases r with
    | cons r rs =>
      simp only [lfrees, Bool.and_eq_true] at hl
      obtain ⟨as, a, n⟩ := Rp.readsF I h r hl.1
      obtain ⟨bs, b, m⟩ := Rps.readsF I hs rs hl.2
      exact ⟨_, .cons a b, by simp [n, m]⟩
end
theorem bl_reprF (hg : X.A.guards = some []) (hu : X.A.units + 100 < cLine) {pins : List (Addr × Obj)} {s : Shared} {σ : L2.St} {H : Hp} {x : V} {v : Value} {d : D} {Q : VK} {cs : List Addr} {Av : Addr → Prop} (I : Inv X pins σ H s) (rx : RelV x v) (hd : Rp X.K cs Av H x d) (hs : d.showable = true) (hl : lfree d = true) (hdp : d.depth ≤ 20) (hz : d.shown.length ≤ maxLen)
    (q : Q (.str d.shown) H) : wpAny (model X.prog X.w) X.A (call (.builtin "repr") [v]) (EP X pins σ Q) X.xe s := by
  have ml := maxLen_le
  obtain ⟨as, r, n⟩ := Rp.readsF I hd rx hl
  cases hd with
  | non =>
    cases rx
    exact PySem.P.repr_of_none ⟨.str _, H, I.tok _, ⟨_, rfl⟩, q⟩
  | bl b =>
    cases rx
    exact PySem.P.repr_of_bool ⟨.str _, H, I.tok _, ⟨_, rfl⟩, by cases b <;> exact q⟩
  | int i =>
    obtain ⟨t, rfl⟩ := rx
    exact PySem.P.repr_of_int (by simpa [PyData.showable] using hs) ⟨.str _, H, I.tok _, ⟨_, rfl⟩, q⟩
  | str y =>
    obtain ⟨t, rfl⟩ := rx
    exact PySem.P.repr_of_str ⟨.str _, H, I.tok _, ⟨_, rfl⟩, q⟩ (by simp only [PyData.shown] at hz; omega)
  | lst h1 h2 h3 => simp [lfree] at hl
  | tup h1 h2 =>
    cases rx
    exact repr_of_reads' r hs (fun _ => n) hg (by omega) (fun _ _ e => e) (fun h' u tk hk => ⟨.str _, H, I.kept hk, ⟨_, rfl⟩, q⟩) (by omega)
  | cell h => simp [lfree, kOf] at hl
  | dct h1 h2 h3 h4 h5 =>
    cases rx
    exact repr_of_reads' r hs (fun _ => n) hg (by omega) (fun _ _ e => e) (fun h' u tk hk => ⟨.str _, H, I.kept hk, ⟨_, rfl⟩, q⟩) (by omega)
  | dct0 h1 =>
    cases rx
    exact repr_of_reads' r hs (fun _ => n) hg (by omega) (fun _ _ e => e) (fun h' u tk hk => ⟨.str _, H, I.kept hk, ⟨_, rfl⟩, q⟩) (by omega)
theorem collect_any {prog : Program} {w : World} {A : Around} {E : Value → Shared → Prop} {s : Shared} {Q : List Value → Shared → Prop} (it : Addr) {T : String} {o : Obj} {items : Array Value} {n : Nat} (hT : T = "list" ∨ T = "tuple") (ho : s.heap.get? it = some o) (hc : o.cls = .type T) (hd : o.data = .seq items n) (hsz : items.size ≤ sizeLine)
    (hQ : Q items.toList { s with heap := (s.heap.push { cls := .type "list", data := .seq ([] : List Value).toArray }).update s.heap.objs.size (Obj.mapSeq (· ++ items)) }) : wpAny (model prog w) A (collect (.ref it)) Q E s := by
  unfold collect
  refine wpAny_bind (wpAny_runValue (codeAny_builtin PySem.F.entry_proto_collect ?_)); rw [Around.under_plainId PySem.F.plain_proto_collect _]
  refine wpAny_bind (wpAny_newObj_type (wpAny_pure ⟨plainId_quiet PySem.F.plain_list_iadd _, codeAny_builtin PySem.F.entry_list_iadd ?_⟩))
  rw [Around.under_plainId PySem.F.plain_list_iadd _]; show wpAny _ A.in1 (Builtin.List.listExtendWith (.ref s.heap.objs.size) (.ref it) (.ref s.heap.objs.size)) _ _ _
  have a1 : (s.heap.push { cls := .type "list", data := .seq ([] : List Value).toArray }).get? s.heap.objs.size = some { cls := .type "list", data := .seq #[] 0 } := Heap.get?_push_size _ rfl
  have a2 := Heap.get?_update_self (Obj.mapSeq (· ++ items)) a1 rfl
  refine wpAny_mono (wpAny_extend_seq (hsz := hsz) (A := A) (R := fun r s' => r = .ok (.ret (.ref s.heap.objs.size)) ∧ s' = { s with heap := (s.heap.push { cls := .type "list", data := .seq ([] : List Value).toArray }).update s.heap.objs.size (Obj.mapSeq (· ++ items)) }) (s := { s with heap := s.heap.push { cls := .type "list", data := .seq ([] : List Value).toArray } }) _ it _ 0 hT a1 (Heap.get?_push_of_some _ ho) hc hd ⟨rfl, rfl⟩) (fun fin s' h => ?_) (fun e s' h => ?_)
  · have fin2 : wpAny (model prog w) A (load s.heap.objs.size >>= fun (o : Obj) => match o.data with | Data.seq xs _ => pure xs.toList | _ => unsupported "internal:collect") Q E { s with heap := (s.heap.push { cls := .type "list", data := .seq ([] : List Value).toArray }).update s.heap.objs.size (Obj.mapSeq (· ++ items)) } := by
      refine wpAny_bind (wpAny_load a2 (wpAny_pure ?_))
      show Q ((#[] : Array Value) ++ items).toList _; rw [show ((#[] : Array Value) ++ items).toList = items.toList by simp]
      exact hQ
    cases fin with
    | done f =>
      obtain ⟨e, rfl⟩ := h; cases e
      exact fin2
    | again c =>
      refine ⟨h.1, codeAny_mono h.2 fun r s2 q => ?_⟩
      obtain ⟨rfl, rfl⟩ := q
      exact fin2
  · have z := h.1
    simp at z
theorem sorted_seq {prog : Program} {w : World} {A : Around} {E : Value → Shared → Prop} {s : Shared} {R : Value → D → Prop} {T : String} {o : Obj} {vs : List Value} {n : Nat} {ds : List D} {it : Addr} {Q : Value → Shared → Prop} (hT : T = "list" ∨ T = "tuple") (ho : s.heap.get? it = some o) (hc : o.cls = .type T) (hd : o.data = .seq vs.toArray n)
    (e : PySem.W.EachIs R vs ds) (er : PySem.W.EachIs (fun v d => ∃ as, Reads s.heap v d as) vs ds) (hal : PySem.W.AllAlike ds) (hk : PySem.W.Sortable ds) (hL : ds.length ≤ sizeLine) (hu : ∀ b, b ∈ ds → A.units + 2 + b.depth < cLine)
    (h : ∀ (h' : Heap) (out : List Value) (a c : Nat), (∀ b o, s.heap.get? b = some o → h'.get? b = some o) → s.heap.objs.size ≤ a → h'.get? a = some (seqObj "list" out.toArray c) → out.length = ds.length → PySem.W.EachIs R out (ds.mergeSort (PySem.W.dataLe false fun d : D => d)) → Q (.ref a) { s with heap := h' }) :
    wpAny (model prog w) A (call (.builtin "sorted") [.ref it]) Q E s := by
  refine Calls.call_function_entry kind_sorted plain_sorted entry_sorted (args_sorted1 _) ?_; unfold Builtin.«sorted»
  refine wpAny_bind (m := checkCount "sorted" 1 1 _) (wpAny_pure (wpAny_bind (collect_any it hT ho hc hd ?_ ?_)))
  · rw [List.size_toArray, e.length]; exact hL
  refine wpAny_bind (wpAny_newList ?_ (by show vs.length ≤ _; rw [e.length]; exact hL))
  generalize hh1 : (s.heap.push { cls := .type "list", data := .seq ([] : List Value).toArray }).update s.heap.objs.size (Obj.mapSeq (· ++ vs.toArray)) = h1
  have k1 : ∀ b u, s.heap.get? b = some u → h1.get? b = some u := fun b u q => by
    rw [← hh1]; exact (Heap.get?_update_other _ _ (Nat.ne_of_gt (Heap.lt_size q))).trans (Heap.get?_push_of_some _ q)
  have hsz : s.heap.objs.size ≤ h1.objs.size := by rw [← hh1, Heap.size_update, Heap.size_push]; omega
  have hat : (h1.push (seqObj "list" vs.toArray 0)).get? h1.objs.size = some (seqObj "list" vs.toArray 0) := Heap.get?_push_size _ rfl
  have kk : ∀ b u, s.heap.get? b = some u → (h1.push (seqObj "list" vs.toArray 0)).get? b = some u := fun b u q => Heap.get?_push_of_some _ (k1 b u q)
  have ks : ∀ b u, s.heap.get? b = some u → (PySem.W.sortingHeap (h1.push (seqObj "list" vs.toArray 0)) h1.objs.size vs).get? b = some u := fun b u q => PySem.W.sortingHeap_old (Nat.ne_of_lt (Nat.lt_of_lt_of_le (Heap.lt_size q) hsz)) (kk b u q)
  refine wpAny_bind (wpAny_holding (wpAny_call_entry_kw slot_list_sort ⟨_, hat, rfl⟩ entry_list_sort ?body (args_list_sort _)))
  case body =>
    have er' : PySem.W.EachIs (fun v d => ∃ as, Reads (PySem.W.sortingHeap (h1.push (seqObj "list" vs.toArray 0)) h1.objs.size vs) v d as) vs ds := er.mono fun _ _ ⟨as, r⟩ => ⟨as, PyProof.Rows.Reads.keeps ks r⟩
    have S := PySem.W.SortsAt.data (prog := prog) (w := w) (A := A.in1.in1) (s := { s with heap := PySem.W.sortingHeap (h1.push (seqObj "list" vs.toArray 0)) h1.objs.size vs }) er' hal hk (fun d hd => by have := hu d hd; show A.units + 1 + 1 + d.depth < cLine; omega)
    refine PySem.W.list_sort_vals (s := { s with heap := h1.push (seqObj "list" vs.toArray 0) }) hat S (by rw [e.length]; exact hL) ?_
    refine ⟨_, rfl, wpAny_pure ⟨_, rfl, ?_⟩⟩
    obtain ⟨c, hc'⟩ := sortedHeap_at (out := (PySem.W.sortVals (PySem.W.dataKind (PySem.W.sortingHeap (h1.push (seqObj "list" vs.toArray 0)) h1.objs.size vs) ds) false vs vs).toArray) hat
    refine h _ _ _ c (fun b u q => ?_) hsz hc' (by rw [PySem.W.sortVals_length false rfl]; exact e.length) ?_
    · rw [sortedHeap_old (Nat.ne_of_lt (Nat.lt_of_lt_of_le (Heap.lt_size q) hsz)) (Nat.lt_of_lt_of_le (Heap.lt_size q) (by rw [Heap.size_push]; omega))]
      exact kk b u q
    · have := PySem.W.sortVals_data (enc := fun d : D => d) (h' := PySem.W.sortingHeap (h1.push (seqObj "list" vs.toArray 0)) h1.objs.size vs) false e (by simpa using er') (by simpa using hal)
      simpa using this
theorem bl_sorted (hu : X.A.units + 100 < cLine) {pins : List (Addr × Obj)} {s : Shared} {σ : L2.St} {H : Hp} {cs : List Addr} {Av : Addr → Prop} {p : Addr} {vs : List V} {xs : List D} {Q : VK} (I : Inv X pins σ H s) (ok : AvOk cs Av H)
    (sp : SqL X.K H p vs ∨ SqT X.K H p vs) (rp : Rps X.K cs Av H vs xs) (h1 : allAlike xs = true) (h2 : sortable xs = true) (h3 : shalAll 19 xs = true) (h4 : xs.length ≤ maxLen)
    (q : ∀ v H', Ext [] H H' → RpR X.K cs Av H H' v (.o (sortBy dLe xs)) → Q v H') : wpAny (model X.prog X.w) X.A (call (.builtin "sorted") [.ref p]) (EP X pins σ Q) X.xe s := by
  have main : ∀ (its : List Value) (T : String) (o : Obj) (n : Nat), (T = "list" ∨ T = "tuple") → Vals vs its → s.heap.get? p = some o → o.cls = .type T → o.data = .seq its.toArray n → wpAny (model X.prog X.w) X.A (call (.builtin "sorted") [.ref p]) (EP X pins σ Q) X.xe s := by
    intro its T o n hT rv ho hc hd
    obtain ⟨p1, d1⟩ := shalAll_plain h3
    have e := rps_in rv rp
    have er := each_reads I e p1
    have ml := maxLen_le
    refine sorted_seq hT ho hc hd e er (alike_of h1) (sortable_of h2) (by omega) (fun b hb => by have := depth_mem hb; omega) fun h' out a c hk ha hat hlen hR => ?_
    rw [← sort_data] at hR
    obtain ⟨ys, hv, hr⟩ := rps_out hR
    have np : H a = none := I.hok.fresh ha
    refine ⟨.ref a, upd H a (.lst ys), ?_, rfl, q _ _ (Ext.upd np) (lst_new ok np hr)⟩
    exact I.laid (t' := s.toks) hk ha ⟨by rw [hv.length, hlen]; omega, out, c, hv, hat⟩
  rcases sp with sp | sp
  · obtain ⟨its, rv, ⟨⟨cls, dd, data, sls⟩, n, ho, hc, hdn, hdt⟩, hlen⟩ := I.list sp
    exact main its "list" _ n (.inl rfl) rv ho hc hdt
  · obtain ⟨its, rv, ⟨⟨cls, dd, data, sl⟩, ho, hc, n, hd⟩, hs⟩ := I.tuple sp
    exact main its "tuple" _ n (.inr rfl) rv ho hc hd
theorem bl_ok (hc : X.calm = true) (hg : X.A.guards = some []) (hu : X.A.units + 100 < cLine) (b : Bl) : CallR X (bltV b) (rBl X.K b) := by
  intro pins s σ H vs us Q I rv h
  obtain ⟨cs, Av, ds, z, ok, hr, hz, q⟩ := h
  have ml := maxLen_le
  unfold blt at hz
  split at hz
  · cases hz
    obtain ⟨v, rfl, r⟩ := hr.one
    obtain ⟨p, ws, rfl, sp', rp⟩ := r.tuple
    have sp := sp'.t
    exact call_len_seq pins s σ H _ us Q I rv ⟨p, ws, rfl, .inr sp, q _ _ (Ext.refl _ _) (by rw [rp.length]; exact .int _)⟩
  · cases hz
    obtain ⟨v, rfl, r⟩ := hr.one
    obtain ⟨p, ws, rfl, sp, rp⟩ := r.list
    exact call_len_seq pins s σ H _ us Q I rv ⟨p, ws, rfl, .inl sp, q _ _ (Ext.refl _ _) (by rw [rp.length]; exact .int _)⟩
  · split at hz
    · rename_i hl
      cases hz
      obtain ⟨v, rfl, r⟩ := hr.one
      obtain rfl := r.str
      exact call_len_str pins s σ H _ us Q I rv ⟨_, rfl, by omega, q _ _ (Ext.refl _ _) (.int _)⟩
    · cases hz
  · cases hz
    obtain ⟨v, rfl, r⟩ := hr.one
    obtain rfl := r.int
    exact call_abs pins s σ H _ us Q I rv ⟨_, rfl, q _ _ (Ext.refl _ _) (.int _)⟩
  · cases hz
    obtain ⟨v, u, rfl, r, r'⟩ := hr.two
    obtain rfl := r.int
    obtain rfl := r'.int
    exact call_max2 hc pins s σ H _ us Q I rv ⟨_, _, rfl, q _ _ (Ext.refl _ _) (.int _)⟩
  · cases hz
    obtain ⟨v, u, rfl, r, r'⟩ := hr.two
    obtain rfl := r.int
    obtain rfl := r'.int
    exact call_min2 hc pins s σ H _ us Q I rv ⟨_, _, rfl, q _ _ (Ext.refl _ _) (.int _)⟩
  · cases hz
    obtain ⟨v, rfl, r⟩ := hr.one
    obtain rfl := r.int
    exact call_int1 pins s σ H _ us Q I rv (.inl ⟨_, rfl, q _ _ (Ext.refl _ _) (.int _)⟩)
  · cases hz
    obtain ⟨v, rfl, r⟩ := hr.one
    obtain rfl := r.bool
    exact call_int1 pins s σ H _ us Q I rv (.inr ⟨_, rfl, q _ _ (Ext.refl _ _) (.int _)⟩)
  · split at hz
    · rename_i hl
      cases hz
      obtain ⟨v, rfl, r⟩ := hr.one
      obtain rfl := r.int
      have := PySem.Flt.log2_lt_of (by decide) hl
      exact call_str_int pins s σ H _ us Q I rv ⟨_, rfl, by omega, q _ _ (Ext.refl _ _) (.str _)⟩
    · cases hz
  · split at hz
    · rename_i d hl
      cases hz
      simp only [Bool.and_eq_true, decide_eq_true_eq] at hl
      obtain ⟨⟨h1, h2⟩, h3⟩ := hl
      obtain ⟨v, rfl, r⟩ := hr.one
      unfold rpOk at h1
      rw [Bool.or_eq_true, Bool.and_eq_true, decide_eq_true_eq] at h1
      cases rv with
      | cons rx rt =>
        cases rt
        rcases h1 with h1 | ⟨h1, hdp⟩
        case inr =>
          have r' : Rp X.K cs Av H v d := by
            rcases r with r | ⟨a, vs, es, rfl, rfl, _⟩
            · exact r
            · simp [lfree] at h1
          exact bl_reprF hg hu I rx r' h2 h1 hdp h3 (q _ _ (Ext.refl _ _) (.str _))
        obtain ⟨p1, d1⟩ := shal_plain h1
        exact bl_repr hg hu I rx (r.dp p1) h2 p1 d1 h3 (q _ _ (Ext.refl _ _) (.str _))
    · cases hz
  · cases hz
    obtain ⟨v, rfl, r⟩ := hr.one
    obtain ⟨p, ws, rfl, sp, rp⟩ := r.list
    exact call_tupleD pins s σ H _ us Q I rv ⟨p, ws, rfl, .inl ⟨sp, fun l o ho nl => q _ _ (Ext.upd nl) (tup_new ok ho nl rp)⟩⟩
  · cases hz
    obtain ⟨v, rfl, r⟩ := hr.one
    obtain ⟨p, ws, rfl, sp, rp⟩ := r.tuple
    exact call_tupleD pins s σ H _ us Q I rv ⟨p, ws, rfl, .inr ⟨sp.t, q _ _ (Ext.refl _ _) (Rp.tup sp rp)⟩⟩
  · cases hz
    obtain ⟨v, rfl, r⟩ := hr.one
    obtain ⟨p, ws, rfl, sp, rp⟩ := r.list
    exact call_list_of pins s σ H _ us Q I rv ⟨p, ws, rfl, .inl sp, fun l nl => q _ _ (Ext.upd nl) (lst_new ok nl rp)⟩
  · cases hz
    obtain ⟨v, rfl, r⟩ := hr.one
    obtain ⟨p, ws, rfl, sp', rp⟩ := r.tuple
    have sp := sp'.t
    exact call_list_of pins s σ H _ us Q I rv ⟨p, ws, rfl, .inr sp, fun l nl => q _ _ (Ext.upd nl) (lst_new ok nl rp)⟩
  · split at hz
    · rename_i xs hl
      cases hz
      simp only [Bool.and_eq_true, decide_eq_true_eq] at hl
      obtain ⟨⟨⟨h1, h2⟩, h3⟩, h4⟩ := hl
      obtain ⟨v, rfl, r⟩ := hr.one
      obtain ⟨p, ws, rfl, sp, rp⟩ := r.list
      cases rv with
      | cons rx rt =>
        cases rt
        cases rx
        exact bl_sorted hu I ok (.inl sp) rp h1 h2 h3 h4 q
    · cases hz
  · split at hz
    · rename_i xs hl
      cases hz
      simp only [Bool.and_eq_true, decide_eq_true_eq] at hl
      obtain ⟨⟨⟨h1, h2⟩, h3⟩, h4⟩ := hl
      obtain ⟨v, rfl, r⟩ := hr.one
      obtain ⟨p, ws, rfl, sp', rp⟩ := r.tuple
      have sp := sp'.t
      cases rv with
      | cons rx rt =>
        cases rt
        cases rx
        exact bl_sorted hu I ok (.inr sp) rp h1 h2 h3 h4 q
    · cases hz
  · simp only [Option.map_eq_some_iff] at hz
    obtain ⟨ns, e, rfl⟩ := hz
    obtain ⟨v, rfl, r⟩ := hr.one
    obtain ⟨p, ws, rfl, sp, rp⟩ := r.list
    obtain ⟨e1, e2⟩ := rp.ints_of e
    subst e1
    exact cr_sum hc pins s σ H _ us Q I rv ⟨p, ns, rfl, sp, q _ _ (Ext.refl _ _) (.int _)⟩
  · simp only [Option.map_eq_some_iff] at hz
    obtain ⟨ns, e, rfl⟩ := hz
    obtain ⟨v, rfl, r⟩ := hr.one
    obtain ⟨p, ws, rfl, sp, rp⟩ := r.tuple
    obtain ⟨e1, e2⟩ := rp.ints_of e
    subst e1
    exact cr_sumT hc pins s σ H _ us Q I rv ⟨p, ns, rfl, sp.t, q _ _ (Ext.refl _ _) (.int _)⟩
  · simp only [Option.map_eq_some_iff] at hz
    obtain ⟨ns, e, rfl⟩ := hz
    obtain ⟨v, rfl, r⟩ := hr.one
    obtain ⟨p, ws, rfl, sp, rp⟩ := r.list
    obtain ⟨e1, e2⟩ := rp.bools_of e
    subst e1
    exact cr_all hc pins s σ H _ us Q I rv ⟨p, ns, rfl, sp, q _ _ (Ext.refl _ _) (.bl _)⟩
  · simp only [Option.map_eq_some_iff] at hz
    obtain ⟨ns, e, rfl⟩ := hz
    obtain ⟨v, rfl, r⟩ := hr.one
    obtain ⟨p, ws, rfl, sp, rp⟩ := r.list
    obtain ⟨e1, e2⟩ := rp.bools_of e
    subst e1
    exact cr_any hc pins s σ H _ us Q I rv ⟨p, ns, rfl, sp, q _ _ (Ext.refl _ _) (.bl _)⟩
  · cases hz
end
end Ev

set_option Elab.async false
set_option linter.all false
set_option maxRecDepth 100000
set_option maxHeartbeats 1000000
/-! Reversed tuples; defs that are called where no repr runs. -/
namespace Ev
open PySem PySem.Spec PyProof.Rows L2 HT

/-! ### t[::-1] -/
section
variable {prog : Program} {w : World} {A : Around} {E : Value → Shared → Prop} {s : Shared}
theorem rev_items (n : Nat) (xs : Array Value) (hn : xs.size = n) : ((List.range n).filterMap fun (k : Nat) => xs[(((n : Int) - 1) + (k : Int) * (-1)).toNat]?) = xs.toList.reverse := by
  have e : ∀ l : List Nat, (∀ k ∈ l, k < n) → l.filterMap (fun (k : Nat) => xs[(((n : Int) - 1) + (k : Int) * (-1)).toNat]?) = l.filterMap (fun k => (xs.toList.reverse)[k]?) := by
    intro l
    induction l with
    | nil => intro _; rfl
    | cons k l ih =>
      intro hl
      have hk' := hl k List.mem_cons_self
      have e1 : (((n : Int) - 1) + (k : Int) * (-1)).toNat = n - 1 - k := by omega
      rw [List.filterMap_cons, List.filterMap_cons, ih (fun j hj => hl j (List.mem_cons_of_mem _ hj)), e1, List.getElem?_reverse (by rw [Array.length_toList]; omega), Array.getElem?_toList, Array.length_toList, hn]
  rw [e _ fun k hk => List.mem_range.mp hk]
  have hl : n = xs.toList.reverse.length := by rw [List.length_reverse, Array.length_toList, hn]
  rw [hl]
  generalize xs.toList.reverse = l
  induction l with
  | nil => rfl
  | cons a l ih =>
    rw [List.length_cons, List.range_succ_eq_map, List.filterMap_cons]
    simp only [List.getElem?_cons_zero]
    rw [List.filterMap_map]
    simpa [Function.comp_def] using ih
theorem getItem_tup_rev {t sl : Addr} {items : Array Value} {vl vu vs : Value} {Q : Value → Shared → Prop} (ht : IsTup s.heap t items) (hs : s.heap.IsSliceOf sl vl vu vs) (pl : IsPart vl none) (pu : IsPart vu none) (ps : IsPart vs (some (-1))) (hsz : items.size ≤ sizeLine)
    (h : Q (.ref s.heap.objs.size) { s with heap := s.heap.push { cls := .type "tuple", data := .seq items.toList.reverse.toArray } }) : wpAny (model prog w) A (getItem (.ref t) (.ref sl)) Q E s := by
  obtain ⟨os, hos, hcs, hds⟩ := id hs
  have hTs : s.TypeIs (.ref sl) "slice" := ⟨os, hos, hcs⟩
  unfold getItem
  try with_reducible refine wpAny_holding ?_
  refine wpAny_bind (wpAny_sequenceKey ht.typeIs (by decide) ?_); refine wpAny_bind (wpAny_callSpecial?_slot (name := Str.ofString "__getitem__") ht.typeIs PyProof.Rows.slot_tuple_getitem (wpAny_call_entry PyProof.Rows.slot_tuple_getitem ht.typeIs entry_tuple_getitem ?_ (args_tuple_getitem _ _)))
  show wpAny _ _ (Builtin.Tuple.tupleItemsOf (.ref t) >>= _) _ _ s
  refine wpAny_bind (tupleItemsOf_ ht (wpAny_bind (wpAny_typeOf hTs ?_)))
  rw [if_pos (by decide)]
  have hap : ∀ {R : Int × Int × Nat → Shared → Prop}, R (((items.size : Nat) : Int) - 1, -1, items.size) s → wpAny (model prog w) A.in1 (Builtin.Slice.sliceApplied (.ref sl) (pure ((items.size : Nat) : Int))) R (fun _ _ => False) s := fun {R} q => by
    unfold Builtin.Slice.sliceApplied Builtin.Slice.sliceFields
    refine wpAny_bind (wpAny_bind (wpAny_field hos hds (x := vl) rfl (wpAny_bind (wpAny_field hos hds (x := vu) rfl (wpAny_bind (wpAny_field hos hds (x := vs) rfl (wpAny_pure (wpAny_bind (slicePart_ ps ?_)))))))))
    show wpAny _ _ (if ((-1 : Int) == 0) = true then _ else _) _ _ s
    rw [if_neg (by decide)]
    refine wpAny_bind (slicePart_ pl (wpAny_bind (slicePart_ pu (wpAny_bind (wpAny_pure ?_)))))
    have e1 : Builtin.Slice.sliceAdjust none none (-1) ((items.size : Nat) : Int) = (((items.size : Nat) : Int) - 1, -1) := rfl
    have e2 : Builtin.Slice.slicePlaces (((items.size : Nat) : Int) - 1) (-1) (-1) = items.size := by
      unfold Builtin.Slice.slicePlaces
      rw [if_neg (by decide)]
      split
      · have : (-(-1) : Int) = 1 := by decide
        rw [this, Int.ediv_one]
        omega
      · omega
    show wpAny _ _ (match Builtin.Slice.sliceAdjust none none (-1) ((items.size : Nat) : Int) with | (lo, hi) => pure (lo, (-1 : Int), Builtin.Slice.slicePlaces lo hi (-1))) _ _ s
    rw [e1]
    show wpAny _ _ (pure ((((items.size : Nat) : Int) - 1), (-1 : Int), Builtin.Slice.slicePlaces (((items.size : Nat) : Int) - 1) (-1) (-1))) _ _ s
    rw [e2]
    exact wpAny_pure q
  refine wpAny_bind (wpAny_mono (hap (R := fun r s' => r = (((items.size : Nat) : Int) - 1, -1, items.size) ∧ s' = s) ⟨rfl, rfl⟩) (fun r s' hr => ?_) fun _ _ z => z.elim)
  obtain ⟨rfl, rfl⟩ := hr
  have hno : ¬ (((((items.size : Nat) : Int) - 1) == 0 && (-1 : Int) == 1 && items.size == items.size) = true) := by simp
  show wpAny _ _ (if ((((items.size : Nat) : Int) - 1) == 0 && (-1 : Int) == 1 && items.size == items.size) = true then _ else _) _ _ s'
  rw [if_neg hno]
  show wpAny _ _ (Builtin.Tuple.tupleExact ((List.range items.size).filterMap fun (k : Nat) => items[(((items.size : Nat) : Int) - 1 + (k : Int) * (-1)).toNat]?).toArray >>= _) _ _ s'
  rw [rev_items _ _ rfl]
  exact wpAny_bind (wpAny_newObj_type (wpAny_pure ⟨_, rfl, wpAny_pure h⟩) (by show items.toList.reverse.toArray.size ≤ sizeLine; simp; exact hsz))
end
section
variable {X : Cx}
def tRv (K : PySem.W.Frag) (te : TE) : TE := fun σ H Q => te σ H fun x H1 => ∃ a xs, x = .ref a ∧ ((SqT K H1 a xs ∧ nT Q H1 xs.reverse) ∨ (SqL K H1 a xs ∧ ∀ p, H1 p = none → Q (.ref p) (upd H1 p (.lst xs.reverse))))
theorem pe_rv {e : Expr} {te : TE} {k : Nat} {p1 p2 p3 pos : Pos} (he : PE X e te) : PE X (.Subscript e (.Slice none none (some (.UnaryOp .USub (.Constant (.int 1) k p1) p2)) p3) pos) (tRv X.K te) := by
  refine ⟨fun pins s σ H Q I h => Subscript_ (thn (he.run pins s σ H _ I h) fun v s1 ⟨x, H1, I1, r1, a, xs, ex, q⟩ => ?_)⟩
  subst ex
  cases r1
  have hst : PO X (some (.UnaryOp .USub (.Constant (.int 1) k p1) p2)) (tPart (tUn (rU fun i => .int (-i)) (tC (.int 1)))) := po_some (pe_un un_neg pe_int)
  refine wpAny_Slice (thn (po_none.run pins s1 σ H1 (fun o H2 => o = none ∧ H2 = H1) I1 ⟨rfl, rfl⟩) fun vl s2 ⟨l, H2, I2, pl, el, e2⟩ => ?_)
  subst el e2
  refine thn (po_none.run pins s2 σ H2 (fun o H3 => o = none ∧ H3 = H2) I2 ⟨rfl, rfl⟩) fun vu s3 ⟨u, H3, I3, pu, eu, e3⟩ => ?_
  subst eu e3
  refine thn (hst.run pins s3 σ H3 (fun o H4 => o = some (-1) ∧ H4 = H3) I3 ⟨1, rfl, -1, rfl, rfl, rfl⟩) fun vs s4 ⟨o, H4, I4, ps, eo, e4⟩ => ?_
  subst eo e4
  have I5 : Inv X pins σ H4 { s4 with heap := s4.heap.push { cls := .type "slice", data := .fields #[vl, vu, vs] } } := I4.kept (t' := s4.toks) fun b ob z => Heap.get?_push_of_some _ z
  show wpAny (model X.prog X.w) X.A (subscriptTail e (.Slice none none (some (.UnaryOp .USub (.Constant (.int 1) k p1) p2)) p3) (.ref a) (.ref s4.heap.objs.size)) (EP X pins σ Q) X.xe { s4 with heap := s4.heap.push { cls := .type "slice", data := .fields #[vl, vu, vs] } }
  rcases q with ⟨hx, q⟩ | ⟨hx, q⟩
  · obtain ⟨its, r, ht, hz⟩ := I5.tuple hx
    have hlen := r.length
    refine tail_any (ops := [.ref a, .ref s4.heap.objs.size]) ht.typeIs (PyProof.Rows.slot_tuple_getitem.lookup) ?_ (by with_unfolding_all rfl)
    refine getItem_tup_rev ht (Heap.IsSliceOf.new _ vl vu vs) pl pu ps (by rw [List.size_toArray]; omega) ?_
    exact ⟨.ref _, _, tup_laid (t' := s4.toks) I5 (fun b ob z => Heap.get?_push_of_some _ z) (Nat.le_refl _) (Heap.get?_push_size _ rfl) r.reverse (by rw [List.length_reverse]; exact hz), rfl, q _ _ rfl (I5.hok.fresh (Nat.le_refl _))⟩
  · obtain ⟨its, r, ht, hz⟩ := I5.list hx
    have hlen := r.length
    refine tail_any (ops := [.ref a, .ref s4.heap.objs.size]) ht.isList.typeIs (PySem.slot_list_getitem.lookup) ?_ (by with_unfolding_all rfl)
    refine wpAny_getItem_list_slice ht.isList (Heap.IsSliceOf.new _ vl vu vs) pl pu ps (by decide) ?_ (by rw [List.size_toArray]; omega)
    rw [PySem.W.krv_pick]
    refine ⟨.ref _, _, I5.laid (t' := s4.toks) (o := .lst xs.reverse) (fun b ob z => Heap.get?_push_of_some _ z) (Nat.le_refl _) ?_, rfl, q _ (I5.hok.fresh (Nat.le_refl _))⟩
    exact ⟨by rw [List.length_reverse]; exact hz, _, 0, r.reverse, Heap.get?_push_size _ rfl⟩
end

/-! ### defs, called where no repr runs -/
structure FnG (P : Program) (w : World) (K : PySem.W.Frag) (mg : Str → Option Value) (base : Heap) (k : Nat) (f : Addr) (fd : FuncData) (ps : List Str) (sp : Sp) : Prop where
  len : ∀ vs H Q E, sp vs H Q E → vs.length = ps.length
  run : ∀ (A : Around) (outer : List Env) (s : Shared) (H : Hp) (args : Args) (us : List Value) (vs : List V) (Q : VK) (E : XK), Room k A → A.guards = some [] → Env0 P w K mg base A outer s H → BindsTo s fd args (ps.zip us) → Vals vs us → sp vs H Q E →
    codeAny (model P w) A (.call (.ref f) args) (CR CX0 outer P w H s Q E) s
theorem FnG.mono {P : Program} {w : World} {K : PySem.W.Frag} {mg : Str → Option Value} {base : Heap} {j k : Nat} {f : Addr} {fd : FuncData} {ps : List Str} {sp : Sp} (F : FnG P w K mg base j f fd ps sp) (h : j ≤ k) : FnG P w K mg base k f fd ps sp :=
  ⟨F.len, fun A outer s H args us vs Q E hr => F.run A outer s H args us vs Q E (hr.mono h)⟩
theorem fnG_of {P : Program} {w : World} {K : PySem.W.Frag} {mg : Str → Option Value} {base : Heap} {k : Nat} {f : Addr} {qual : Str} {params : Arguments} {body : List Stmt} {scope : Scope} {cdv oc : Value} {od : Option Addr} {osl : Array (Option Value)} {N ps : List Str} {sp : Sp} {fd : FuncData}
    (hfd : ∃ x dV kV doc pm an ct, fd = PySem.W.fnOf x qual params body scope dV kV doc pm an cdv ct) (lk : K.lookup f = some ⟨oc, od, .func fd, osl⟩) (hcd : PySem.W.codeIn K cdv qual = true) (S : FnScope N ps scope) (len : ∀ vs H Q E, sp vs H Q E → vs.length = ps.length)
    (hb : ∀ (A : Around) (outer : List Env) (s : Shared) (H : Hp) (vs : List V) (Q : VK) (E : XK), Room k (A.deeper (envOfC qual scope s.heap.objs.size f cdv)) → A.guards = some [] → sp vs H Q E →
      ∃ t, PSs (cxOf CX0 P w K mg base N qual scope f cdv A outer s H E) body t ∧ t { nx := fun _ H' => Q .non H', rt := Q } (start N vs) H) : FnG P w K mg base (k + 1) f fd ps sp := by
  obtain ⟨x, dV, kV, doc, pm, an, ct, rfl⟩ := hfd
  refine ⟨len, fun A outer s H args us vs Q E hr hg e0 hbd rv hsp => ?_⟩
  have key : ∀ (us0 : List Value) (Q0 : VK), True := fun _ _ => trivial
  have KX : K.In s.heap := e0.mod.kin.keeps fun b o e => (e0.bs b o e).1
  have lim : s.heap.NoLimit := e0.mod.nolimit.keeps fun b o e => (e0.bs b o e).1
  have vis : ∀ y ∈ ps.zip us, scope.names.lookup y.1 = some .local ∨ (scope.names.lookup y.1 = some .cell ∧ ((cellsFrom (s.heap.objs.size + 1) scope.names []).lookup y.1).isSome = true) := by
    rintro ⟨n, v⟩ hy
    rcases S.par n (List.of_mem_zip hy).1 with q | q
    · left; exact q
    · right; exact ⟨q, PySem.W.cellsFrom_some _ _ _ (.inl q)⟩
  refine codeAny_call_function hr.depth (KX _ _ lk) rfl S.co S.gen rfl (PySem.W.codeRec_of KX hcd) (hbd _ _ _ _ (wpAny_newFunctionEnv_cells S.kind vis fun env he s1 x => ?_))
  subst he
  refine ⟨lim.keeps x.toInCall.keep, codeAny_func ?_⟩
  obtain ⟨t, ht, hq⟩ := hb A outer s H vs Q E (hr.deeper _) hg hsp
  have I := inv_start (CX := CX0) (P := P) (w := w) (E := E) S hr.hd e0 (len _ _ _ _ hsp) rv x
  refine wpAny_mono (ht.run [] s1 (start N vs) H _ I hq) (fun fl s' hs => ?_) fun e s' hs => hs
  cases fl with
  | ret u =>
    obtain ⟨v, σ', H', J, rv', q⟩ := hs
    exact ⟨v, H', J.os, J.bare, J.base, J.hok, rv', q⟩
  | next =>
    obtain ⟨σ', H', J, q⟩ := hs
    exact ⟨.non, H', J.os, J.bare, J.base, J.hok, rfl, q⟩
  | brk => obtain ⟨_, _, _, q⟩ := hs; exact q.elim
  | cont => obtain ⟨_, _, _, q⟩ := hs; exact q.elim
section
variable {X : Cx}
theorem run_g {pins : List (Addr × Obj)} {σ : L2.St} {H : Hp} {s : Shared} {Q : VK} {us : List Value} {kw : List (Str × Value)} {ws : List Value} {vs : List V} {k : Nat} {f : Addr} {fd : FuncData} {ps : List Str} {sp : Sp} (F : FnG X.prog X.w X.K X.mg X.base k f fd ps sp) (hr : Room k X.A) (hg : X.A.guards = some [])
    (hb : BindsTo s fd ⟨us, kw⟩ (ps.zip ws)) (I : Inv X pins σ H s) (r : Vals vs ws) (h : sp vs H Q E0) : wpAny (model X.prog X.w) X.A (call (.ref f) us kw) (EP X pins σ Q) X.xe s := by
  refine wpAny_call (codeAny_mono (F.run X.A X.stack s H ⟨us, kw⟩ ws vs Q E0 hr hg I.env0 hb r h) fun r s' hq => ?_)
  cases r with
  | error e => exact hq.elim
  | ok fl =>
    cases fl with
    | ret u => exact I.after hq
    | next => exact hq.elim
    | brk => exact hq.elim
    | cont => exact hq.elim
end
end Ev

set_option Elab.async false
set_option linter.all false
set_option maxRecDepth 100000
set_option maxHeartbeats 1000000
/-! The look that a text is what a term says, and that the term's value is the text's. -/
namespace Ev
open PySem PySem.Spec PyProof.Rows L2

/-! ### the look -/
structure Ga where
  N : List Str
  fn : List (Nat × Str)
  cn : List (Str × D)
  kb : List (Nat × List Str × List Nat)
def isVis (sc : Scope) (x : Str) : Bool := match sc.names.lookup x with
  | some .local => true | some .cell => true | some .free => true | _ => false
def isGl (sc : Scope) (x : Str) : Bool := match sc.names.lookup x with
  | some .globalImplicit => true | _ => false
def okN (x : Str) : Bool := x != ("__debug__" : Str) && x != ("__classdict__" : Str) && x != ("__name__" : Str)
def plainE : Expr → Bool
  | .Starred .. => false
  | _ => true
mutual
def deq : D → D → Bool
  | .none, .none => true
  | .bool a, .bool b => a == b
  | .int a, .int b => a == b
  | .str a, .str b => a == b
  | .tuple a, .tuple b => deqs a b
  | _, _ => false
def deqs : List D → List D → Bool
  | [], [] => true
  | x :: xs, y :: ys => deq x y && deqs xs ys
  | _, _ => false
end
mutual
theorem deq_eq : ∀ {a b : D}, deq a b = true → a = b
  | .none, b, h => by cases b <;> simp_all [deq]
  | .bool x, b, h => by cases b <;> simp_all [deq]
  | .int x, b, h => by cases b <;> simp_all [deq]
  | .str x, b, h => by cases b <;> simp_all [deq]
  | .tuple x, b, h => by
    cases b with
    | tuple y => simp only [deq] at h; rw [deqs_eq h]
    | _ => simp [deq] at h
  | .list x, b, h => by cases b <;> simp [deq] at h
  | .dict x, b, h => by cases b <;> simp [deq] at h
theorem deqs_eq : ∀ {a b : List D}, deqs a b = true → a = b
  | [], b, h => by cases b <;> simp_all [deqs]
  | x :: xs, b, h => by
    cases b with
    | nil => simp [deqs] at h
    | cons y ys =>
      simp only [deqs, Bool.and_eq_true] at h
      rw [deq_eq h.1, deqs_eq h.2]
end
def chkC : Const → D → Bool
  | .none, .none => true
  | .bool a, .bool b => a == b
  | .int a, .int b => a == b
  | .str a, .str b => a == b
  | _, _ => false
def bltName : Bl → Str
  | .len => "len" | .abs => "abs" | .max2 => "max" | .min2 => "min" | .int => "int" | .str => "str" | .repr => "repr"
  | .tuple => "tuple" | .list => "list" | .sorted => "sorted" | .sum => "sum" | .all => "all" | .any => "any" | .max1 => "max" | .min1 => "min"
def tyName : Ty → Str
  | .int => "int" | .bool => "bool" | .str => "str" | .tup => "tuple" | .lst => "list"
def nmIs (N : List Str) (i : Nat) (x : Str) : Bool := match N[i]? with
  | some y => y == x
  | none => false
/-- no starred target -/
def noSt : Expr → Bool
  | .Starred .. => false
  | _ => true
mutual
def chkT (G : Ga) (fp : Str → Bool) (sc : Scope) : Tg → Expr → Bool
  | .nm i, .Name x _ => nmIs G.N i x && (match sc.names.lookup x with | some .local => true | some .cell => fp x | _ => false)
  | .tp ts, .Tuple es _ _ => chkTs G fp sc ts es
  | _, _ => false
def chkTs (G : Ga) (fp : Str → Bool) (sc : Scope) : Tgs → List Expr → Bool
  | .nil, [] => true
  | .cons t r, e :: es => noSt e && (chkT G fp sc t e && chkTs G fp sc r es)
  | _, _ => false
end
/-- the target's slots are the block's own -/
def tgIn (own : List Nat) (t : Tg) : Bool := (slotsOf t).all fun i => own.contains i
def chkOwn (N : List Str) (own : List Nat) : List (Str × Nat) := own.map fun i => (N.getD i "", i)
/-- a subscript that is no slice -/
def plainSub : Expr → Bool
  | .Slice .. => false
  | _ => true
def setLit : Expr → Bool
  | .Set .. => true
  | _ => false
def fnIs (G : Ga) (f : Nat) (x : Str) : Bool := match G.fn.lookup f with
  | some y => y == x
  | none => false
def cnIs (G : Ga) (x : Str) (d : D) : Bool := match G.cn.lookup x with
  | some d' => deq d d'
  | none => false

def kwNames : List Keyword → Option (List Str)
  | [] => some []
  | ⟨some n, _, _⟩ :: r => (kwNames r).map (n :: ·)
  | _ => none
def kbIs (G : Ga) (f : Nat) (kws : List Keyword) (perm : List Nat) : Bool := match kwNames kws with
  | some ks => G.kb.any fun q => q.1 == f && (q.2.1 == ks && q.2.2 == perm)
  | none => false
def lenOk : List Expr → Bool
  | [_] => true
  | [_, _] => true
  | _ => false
/-- the keys of a display: texts -/
def chkKy : List Str → List (Option Expr) → Bool
  | [], [] => true
  | x :: xs, some (.Constant (.str y) _ _) :: r => x == y && chkKy xs r
  | _, _ => false
/-- the keys of a display: names -/
def chkKn (G : Ga) (sc : Scope) : List Nat → List (Option Expr) → Bool
  | [], [] => true
  | i :: is, some (.Name x _) :: r => (nmIs G.N i x && isVis sc x && okN x) && chkKn G sc is r
  | _, _ => false
/-- an iterable that is no set display -/
def itOk (e : Expr) : Bool := !setLit e

mutual
def chkE (G : Ga) (sc : Scope) (w : Bool) : CE → Expr → Bool
  | .var i, .Name x _ => nmIs G.N i x && isVis sc x && okN x
  | .peek i, .Name x _ => w && (nmIs G.N i x && isVis sc x && okN x)
  | .con d, .Constant c _ _ => chkC c d
  | .gl y d, .Name x _ => x == y && isGl sc x && okN x && cnIs G x d
  | .tup es, .Tuple l _ _ => chkEs G sc es l
  | .lst es, .List l _ => chkEs G sc es l
  | .bin o a b, .BinOp l p r _ => p == opOf o && chkE G sc true a l && chkE G sc true b r
  | .neg a, .UnaryOp .USub l _ => chkE G sc false a l
  | .cmp o a b, .Compare l [p] [r] _ => p == cmOf o && chkE G sc true a l && chkE G sc true b r && !behindInMarks p r
  | .chain o o' a b c, .Compare l [p, p'] [r, r'] _ => p == cmOf o && p' == cmOf o' && chkE G sc true a l && chkE G sc true b r && chkE G sc true c r' && !lastMarks [p, p'] [r, r']
  | .and a b, .BoolOp .And (x :: y :: r) p => chkE G sc false a x && chkE G sc false b (.BoolOp .And (y :: r) p)
  | .or a b, .BoolOp .Or (x :: y :: r) p => chkE G sc false a x && chkE G sc false b (.BoolOp .Or (y :: r) p)
  | .one a, .BoolOp _ [x] _ => chkE G sc false a x
  | .not a, .UnaryOp .Not l _ => chkE G sc true a l
  | .ite c a b, .IfExp x y z _ => chkE G sc false c x && chkE G sc false a y && chkE G sc false b z
  | .sub a i, .Subscript x y _ => chkE G sc true a x && chkE G sc false i y && plainSub y
  | .sl a lo hi, .Subscript x (.Slice l h none _) _ => chkE G sc true a x && chkO G sc lo l && chkO G sc hi h
  | .rev a, .Subscript x (.Slice none none (some (.UnaryOp .USub (.Constant (.int 1) _ _) _)) _) _ => chkE G sc true a x
  | .call f es, .Call (.Name x _) (e :: l) [] _ => fnIs G f x && isGl sc x && okN x && chkAs G sc false es (e :: l)
  | .callk f es perm, .Call (.Name x _) [] (kw :: kws) _ => fnIs G f x && isGl sc x && okN x && kbIs G f (kw :: kws) perm && chkKs G sc es (kw :: kws)
  | .blt b es, .Call (.Name x _) (e :: l) [] _ => x == bltName b && isGl sc x && okN x && chkAs G sc true es (e :: l)
  | .isi t a, .Call (.Name x _) [e, .Name y _] [] _ => x == ("isinstance" : Str) && isGl sc x && y == tyName t && isGl sc y && plainE e && chkE G sc true a e
  | .lrng es, .Call (.Name x _) [.Call (.Name y _) l [] _] [] _ => x == ("list" : Str) && isGl sc x && y == ("range" : Str) && isGl sc y && chkAs G sc false es l && lenOk l
  | .trng es, .Call (.Name x _) [.Call (.Name y _) l [] _] [] _ => x == ("tuple" : Str) && isGl sc x && y == ("range" : Str) && isGl sc y && chkAs G sc false es l && lenOk l
  | .comp own tg it ifs elt, .ListComp x [⟨t, i, fs, 0⟩] scope _ => blkC G.N sc scope (chkOwn G.N own) && chkI G sc true it t i && tgIn own tg && chkT G (fun x => scope.names.lookup x == some .cell) (relS scope sc) tg t && chkFs G (relS scope sc) ifs fs && chkE G (relS scope sc) false elt x && itOk i
  | .comp2 own tg it ifs tg1 it1 ifs1 elt, .ListComp x [⟨t, i, fs, 0⟩, ⟨t1, i1, fs1, 0⟩] scope _ => blkC G.N sc scope (chkOwn G.N own) && chkI G sc true it t i && tgIn own tg && chkT G (fun x => scope.names.lookup x == some .cell) (relS scope sc) tg t && chkFs G (relS scope sc) ifs fs && chkI G (relS scope sc) false it1 t1 i1 && tgIn own tg1 && chkT G (fun x => scope.names.lookup x == some .cell) (relS scope sc) tg1 t1 && chkFs G (relS scope sc) ifs1 fs1 && chkE G (relS scope sc) false elt x && itOk i && itOk i1
  | .cnt a x, .Call (.Attribute (.Name z zp) m ap) [y] [] cp => m == ("count" : Str) && chkE G sc true a (.Name z zp) && plainE y && chkE G sc false x y && ap.endLine == cp.line
  | .idx a x, .Call (.Attribute (.Name z zp) m ap) [y] [] cp => m == ("index" : Str) && chkE G sc true a (.Name z zp) && plainE y && chkE G sc false x y && ap.endLine == cp.line
  | .dget a k z, .Call (.Attribute (.Name x xp) m ap) [e, f] [] cp => m == ("get" : Str) && chkE G sc false a (.Name x xp) && plainE e && plainE f && chkE G sc false k e && chkE G sc false z f && ap.endLine == cp.line
  | .dlitI is es, .Dict keys vals _ => chkKn G sc is keys && chkAs G sc false es vals && decide (keys.length = vals.length)
  | .sset a, .Call (.Name x _) [.Call (.Name y _) [e] [] _] [] _ => x == ("sorted" : Str) && isGl sc x && y == ("set" : Str) && isGl sc y && plainE e && chkE G sc true a e
  | .dlit ks es, .Dict keys vals _ => chkKy ks keys && chkAs G sc false es vals && decide (keys.length = vals.length)
  | _, _ => false
def chkEs (G : Ga) (sc : Scope) : CEs → List Expr → Bool
  | .nil, [] => true
  | .cons false c r, e :: es => plainE e && chkE G sc false c e && chkEs G sc r es
  | .cons true c r, .Starred e _ :: es => chkE G sc true c e && chkEs G sc r es
  | _, _ => false
/-- no star -/
def chkAs (G : Ga) (sc : Scope) (w : Bool) : CEs → List Expr → Bool
  | .nil, [] => true
  | .cons false c r, e :: es => plainE e && chkE G sc w c e && chkAs G sc w r es
  | _, _ => false
def chkFs (G : Ga) (sc : Scope) : CEs → List Expr → Bool
  | .nil, [] => true
  | .cons false c r, e :: es => chkE G sc false c e && chkFs G sc r es
  | _, _ => false
def chkKs (G : Ga) (sc : Scope) : CEs → List Keyword → Bool
  | .nil, [] => true
  | .cons false c r, ⟨_, e, _⟩ :: ks => chkE G sc false c e && chkKs G sc r ks
  | _, _ => false
def chkO (G : Ga) (sc : Scope) : CEo → Option Expr → Bool
  | .none, none => true
  | .some c, some e => chkE G sc false c e
  | _, _ => false
def chkI (G : Ga) (sc : Scope) (w : Bool) : CI → Expr → Expr → Bool
  | .rng es, _, .Call (.Name x _) (e :: l) [] _ => x == ("range" : Str) && isGl sc x && chkAs G sc false es (e :: l)
  | .enum c, .Tuple _ _ _, .Call (.Name x _) [e] [] _ => x == ("enumerate" : Str) && isGl sc x && plainE e && chkE G sc w c e
  | .zip a b, .Tuple _ _ _, .Call (.Name x _) [e, e'] [] _ => x == ("zip" : Str) && isGl sc x && plainE e && plainE e' && chkE G sc w a e && chkE G sc w b e'
  | .seq c, _, e => chkE G sc w c e
  | _, _, _ => false
end
end Ev

set_option Elab.async false
set_option linter.all false
set_option maxRecDepth 100000
set_option maxHeartbeats 2000000
/-! The term's value is the text's: expressions. -/
namespace Ev
open PySem PySem.Spec PyProof.Rows L2

theorem PEimp {X : Cx} {e : Expr} {t t' : TE} (h : PE X e t) (i : ∀ σ H Q, t' σ H Q → t σ H Q) : PE X e t' := ⟨fun pins s σ H Q I hw => h.run pins s σ H Q I (i σ H Q hw)⟩
theorem PTimp {X : Cx} {e : Expr} {t t' : TT} (h : PT X e t) (i : ∀ σ H Q, t' σ H Q → t σ H Q) : PT X e t' := ⟨fun pins s σ H Q I hw => h.run pins s σ H Q I (i σ H Q hw)⟩
theorem PAimp {X : Cx} {e : List Expr} {t t' : TA} (h : PA X e t) (i : ∀ σ H Q, t' σ H Q → t σ H Q) : PA X e t' := ⟨fun pos pins s σ H Q I hw => h.run pos pins s σ H Q I (i σ H Q hw)⟩

/-- .. and the cells know nothing of a new list -/
def RpS (K : PySem.W.Frag) (cs : List Addr) (Av : Addr → Prop) (H0 H : Hp) (st : Sto) (v : V) (r : RV) : Prop :=
  RpR K cs Av H0 H v r ∧ ∀ a ds, v = .ref a → r = .o ds → Cl K cs (Ev.add Av a) H st
section
variable {K : PySem.W.Frag} {cs : List Addr} {Av Av' : Addr → Prop} {H H' H1 H2 H0 : Hp} {v : V} {vs : List V} {d : D} {ds : List D} {st : Sto} {r : RV} {a : Addr}
theorem RpS.vv (h : Rp K cs Av H v d) : RpS K cs Av H0 H st v (.v d) := ⟨h, fun _ _ _ z => nomatch z⟩
theorem RpS.old (h : RpS K cs Av H1 H st v r) (e : Ext cs H2 H1) (ok : AvOk cs Av H1) : RpS K cs Av H2 H st v r := ⟨h.1.old e ok, h.2⟩
theorem RpS.fresh (h : RpR K cs Av H1 H v r) (e0 : Ext cs H2 H1) (ok : AvOk cs Av H1) (cl : Cl K cs Av H1 st) (e : Ext [] H1 H) : RpS K cs Av H2 H st v r := by
  refine ⟨h.old e0 ok, fun a ds h1 h2 => ?_⟩
  subst h2
  obtain ⟨b, vs, h3, h4, _⟩ := h
  rw [h1] at h3
  cases h3
  exact cl.new ok h4 e
end
/-- what a def promises: the evaluator's value -/
def spF (K : PySem.W.Frag) (g : List D → Sto → Option (RV × Sto)) (n : Nat) : Sp := fun vs H Q _ => vs.length = n ∧ ∃ (cs : List Addr) (Av : Addr → Prop) (ds : List D) (st : Sto) (r : RV) (st' : Sto),
  AvOk cs Av H ∧ Cl K cs Av H st ∧ Rps K cs Av H vs ds ∧ g ds st = some (r, st') ∧ ∀ v H', Ext cs H H' → Cl K cs Av H' st' → RpS K cs Av H H' st' v r → Q v H'
def bltNames : List Str := ["len", "abs", "max", "min", "int", "str", "repr", "tuple", "list", "sorted", "sum", "all", "any", "isinstance", "bool", "range", "enumerate", "zip", "set"]
/-- the ground: what the module's names stand for -/
structure Gd (P : Program) (w : World) (K : PySem.W.Frag) (mg : Str → Option Value) (base : Heap) (G : Ga) (F : FT) (k : Nat) : Prop where
  blt : ∀ x ∈ bltNames, mg x = none
  cn : ∀ x d, G.cn.lookup x = some d → ∃ u v, mg x = some u ∧ RelV v u ∧ ∀ cs Av H, Rp K cs Av H v d
  fn : ∀ f x, G.fn.lookup f = some x → ∃ a fd ps, mg x = some (.ref a) ∧ PySem.W.keepIn K (.ref a) = true ∧ FnG P w K mg base k a fd ps (spF K (F f) ps.length) ∧ Binds K fd ps [] ∧ (∀ ds st r, F f ds st = some r → ds.length = ps.length) ∧
    ∀ ks perm, (f, ks, perm) ∈ G.kb → perm.length = ps.length ∧ ∀ ws : List Value, ws.length = ks.length → bindArgs fd ⟨[], ks.zip ws⟩ = pure (ps.zip (perm.map fun i => ws.getD i .none))
structure Cd (G : Ga) (F : FT) (k : Nat) (X : Cx) : Prop where
  N : X.N = G.N
  calm : X.calm = true
  gd : X.A.guards = some []
  rm : Room k X.A
  nd : G.N.Nodup
  g : Gd X.prog X.w X.K X.mg X.base G F k
theorem Cd.u {G : Ga} {F : FT} {k : Nat} {X : Cx} (c : Cd G F k X) : X.A.units + 100 < cLine := by
  have := c.rm.un
  omega

def tS (K : PySem.W.Frag) (F : FT) (ce : CE) : TE := fun σ H Q => ∃ (cs : List Addr) (Av : Addr → Prop) (ρ : Rho) (st : Sto) (r : RV) (st' : Sto),
  AvOk cs Av H ∧ Cl K cs Av H st ∧ En K cs Av H σ ρ ∧ evE F ce ρ st = some (r, st') ∧ ∀ v H', Ext cs H H' → Cl K cs Av H' st' → RpS K cs Av H H' st' v r → Q v H'
def tW (K : PySem.W.Frag) (F : FT) (ce : CE) : TE := fun σ H Q => ∃ (cs : List Addr) (Av : Addr → Prop) (ρ : Rho) (st : Sto) (r : RV) (st' : Sto),
  AvOk cs Av H ∧ Cl K cs Av H st ∧ En K cs Av H σ ρ ∧ evE F ce ρ st = some (r, st') ∧ ∀ v H', Ext cs H H' → Cl K cs Av H' st' → Rw K cs Av H' v r.d → Q v H'
def tT (K : PySem.W.Frag) (F : FT) (ce : CE) : TT := fun σ H Q => ∃ (cs : List Addr) (Av : Addr → Prop) (ρ : Rho) (st : Sto) (r : RV) (st' : Sto) (b : Bool),
  AvOk cs Av H ∧ Cl K cs Av H st ∧ En K cs Av H σ ρ ∧ evE F ce ρ st = some (r, st') ∧ truth r.d = some b ∧ ∀ H', Ext cs H H' → Cl K cs Av H' st' → Q b H'
def tAs (K : PySem.W.Frag) (F : FT) (ces : CEs) : TA := fun σ H Q => ∃ (cs : List Addr) (Av : Addr → Prop) (ρ : Rho) (st : Sto) (ds : List D) (st' : Sto),
  AvOk cs Av H ∧ Cl K cs Av H st ∧ En K cs Av H σ ρ ∧ evEs F ces ρ st = some (ds, st') ∧ ∀ vs H', Ext cs H H' → Cl K cs Av H' st' → Rps K cs Av H' vs ds → Q vs H'
def tAw (K : PySem.W.Frag) (F : FT) (ces : CEs) : TA := fun σ H Q => ∃ (cs : List Addr) (Av : Addr → Prop) (ρ : Rho) (st : Sto) (ds : List D) (st' : Sto),
  AvOk cs Av H ∧ Cl K cs Av H st ∧ En K cs Av H σ ρ ∧ evEs F ces ρ st = some (ds, st') ∧ ∀ vs H', Ext cs H H' → Cl K cs Av H' st' → Rws K cs Av H' vs ds → Q vs H'

section
variable {K : PySem.W.Frag} {cs : List Addr} {Av : Addr → Prop} {H H0 H' H1 H2 : Hp} {v : V} {vs : List V} {d : D} {ds : List D} {st st' : Sto} {σ : L2.St} {ρ : Rho} {r : RV}
theorem AvOk.there (ok : AvOk cs Av H) : ∀ a, Av a → ∃ o, H a = some o := fun a h => by
  obtain ⟨xs, q⟩ := ok.lst a h
  exact ⟨_, q⟩
theorem RpR.w (ok : AvOk cs Av H0) (h : RpR K cs Av H0 H v r) : Rw K cs Av H v r.d := .inl (h.rp ok.there)
theorem Rws.ext (ok : AvOk cs Av H) (e : Ext cs H H') : ∀ {vs : List V} {ds : List D}, Rws K cs Av H vs ds → Rws K cs Av H' vs ds
  | _, _, .nil => .nil
  | _, _, .cons r t => .cons (r.ext ok e) (Rws.ext ok e t)
theorem Rws.of : ∀ {vs : List V} {ds : List D}, Rps K cs Av H vs ds → Rws K cs Av H vs ds
  | _, _, .nil => .nil
  | _, _, .cons r t => .cons (.inl r) (Rws.of t)
theorem star_plain {e : Expr} (h : plainE e = true) (es : List Expr) (env : Env) : starEach (e :: es) env = (false, eval e env) :: starEach es env := by
  cases e <;> first | rfl | simp [plainE] at h
theorem nostar_any {pos : Pos} {env : Env} : ∀ {l : List Expr}, l.all plainE = true → (backTo pos (starEach l env)).any (·.1) = false
  | [], _ => rfl
  | e :: es, h => by
    simp only [List.all_cons, Bool.and_eq_true] at h
    rw [star_plain h.1]
    show (false || (backTo pos (starEach es env)).any (·.1)) = false
    rw [nostar_any h.2]
    rfl
theorem chkAs_plain {G : Ga} {sc : Scope} {w : Bool} : ∀ {es : CEs} {l : List Expr}, chkAs G sc w es l = true → l.all plainE = true
  | .nil, [], _ => rfl
  | .nil, _ :: _, h => by simp [chkAs] at h
  | .cons true _ _, _, h => by simp [chkAs] at h
  | .cons false _ _, [], h => by simp [chkAs] at h
  | .cons false c r, e :: es, h => by
    simp only [chkAs, Bool.and_eq_true] at h
    simp [h.1.1, chkAs_plain h.2]
end
theorem nmIs_of {N : List Str} {i : Nat} {x : Str} (h : nmIs N i x = true) : N[i]? = some x := by
  unfold nmIs at h
  split at h
  · rename_i y e
    rw [e, eq_of_beq h]
  · cases h
theorem isVis_of {sc : Scope} {x : Str} (h : isVis sc x = true) : Vis sc x := by
  unfold isVis at h
  split at h
  · exact .inl (by assumption)
  · exact .inr (.inl (by assumption))
  · exact .inr (.inr (by assumption))
  · cases h
theorem isGl_of {X : Cx} {x : Str} (h : isGl X.env.scope x = true) : Gl X x := by
  unfold isGl at h
  split at h
  · assumption
  · cases h
theorem okN_of {x : Str} (h : okN x = true) : (x == ("__debug__" : Str)) = false ∧ (x == ("__classdict__" : Str)) = false ∧ x ≠ ("__name__" : Str) := by
  unfold okN at h
  simp only [Bool.and_eq_true, bne_iff_ne, ne_eq] at h
  obtain ⟨⟨h1, h2⟩, h3⟩ := h
  exact ⟨by simpa using h1, by simpa using h2, h3⟩
section
variable {G : Ga} {F : FT} {k : Nat} {X : Cx}
theorem var_ok (c : Cd G F k X) {i : Nat} {x : Str} {pos : Pos} (h : (nmIs G.N i x && isVis X.env.scope x && okN x) = true) : PE X (.Name x pos) (tVar i) := by
  simp only [Bool.and_eq_true] at h
  obtain ⟨⟨h1, h2⟩, h3⟩ := h
  obtain ⟨o1, o2, o3⟩ := okN_of h3
  exact pe_var (by rw [c.N]; exact nmIs_of h1) (isVis_of h2) o1 o2
theorem slot_v {K : PySem.W.Frag} {cs : List Addr} {Av : Addr → Prop} {H : Hp} {σ : L2.St} {ρ : Rho} {i : Nat} {d : D} (en : En K cs Av H σ ρ) (h : ρ[i]? = some (some (.v d))) : ∃ x, σ[i]? = some (some x) ∧ Rp K cs Av H x d := by
  have := en.at_ i
  rw [h] at this
  exact this
theorem slot_o {K : PySem.W.Frag} {cs : List Addr} {Av : Addr → Prop} {H : Hp} {σ : L2.St} {ρ : Rho} {i : Nat} {d : List D} (en : En K cs Av H σ ρ) (h : ρ[i]? = some (some (.o d))) : ∃ a vs, σ[i]? = some (some (.ref a)) ∧ Av a ∧ a ∉ cs ∧ H a = some (.lst vs) ∧ Rps K cs Av H vs d := by
  have := en.at_ i
  rw [h] at this
  exact this
theorem con_ok {c : Const} {d : D} {kk : Nat} {pos : Pos} (h : chkC c d = true) : ∃ v, PE X (.Constant c kk pos) (tC v) ∧ ∀ K cs Av H, Rp K cs Av H v d := by
  unfold chkC at h
  split at h
  · exact ⟨_, pe_non, fun _ _ _ _ => .non⟩
  · rw [eq_of_beq h]; exact ⟨_, pe_bl, fun _ _ _ _ => .bl _⟩
  · rw [eq_of_beq h]; exact ⟨_, pe_int, fun _ _ _ _ => .int _⟩
  · rw [eq_of_beq h]; exact ⟨_, pe_str, fun _ _ _ _ => .str _⟩
  · cases h
theorem blt_ok (c : Cd G F k X) (b : Bl) : X.mg (bltName b) = none := c.g.blt _ (by cases b <;> simp [bltName, bltNames])
theorem bltV_boot (b : Bl) : (∃ n, bltV b = .builtin n ∧ bootBuiltins (bltName b) = some (.builtin n)) ∨ (∃ n, bltV b = .type n ∧ bootBuiltins (bltName b) = some (.type n)) := by
  cases b
  all_goals first
    | exact .inl ⟨_, rfl, by decide +kernel⟩
    | exact .inr ⟨_, rfl, by decide +kernel⟩
end

end Ev

set_option Elab.async false
set_option linter.all false
set_option maxRecDepth 100000
set_option maxHeartbeats 4000000
/-! The term's value is the text's: expressions, by induction. -/
namespace Ev
open PySem PySem.Spec PyProof.Rows L2
theorem ff {p : Prop} (h : false = true) : p := Bool.noConfusion h
section
variable {G : Ga} {sc : Scope} {e : Expr} {w : Bool}
theorem inv_var {i} (h : chkE G sc w (.var i) e = true) : ∃ x p, e = .Name x p ∧ (nmIs G.N i x && isVis sc x && okN x) = true := by
  cases e
  case Name x p => exact ⟨x, p, rfl, h⟩
  all_goals exact ff h
theorem inv_peek {i} (h : chkE G sc w (.peek i) e = true) : w = true ∧ ∃ x p, e = .Name x p ∧ (nmIs G.N i x && isVis sc x && okN x) = true := by
  cases e
  case Name x p =>
    have h' : (w && (nmIs G.N i x && isVis sc x && okN x)) = true := h
    rw [Bool.and_eq_true] at h'
    exact ⟨h'.1, x, p, rfl, h'.2⟩
  all_goals exact ff h
theorem inv_con {d} (h : chkE G sc w (.con d) e = true) : ∃ c j p, e = .Constant c j p ∧ chkC c d = true := by
  cases e
  case Constant c j p => exact ⟨c, j, p, rfl, h⟩
  all_goals exact ff h
theorem inv_gl {y d} (h : chkE G sc w (.gl y d) e = true) : ∃ x p, e = .Name x p ∧ isGl sc x = true ∧ okN x = true ∧ cnIs G x d = true := by
  cases e
  case Name x p =>
    have h' : (x == y && isGl sc x && okN x && cnIs G x d) = true := h
    simp only [Bool.and_eq_true] at h'
    exact ⟨x, p, rfl, h'.1.1.2, h'.1.2, h'.2⟩
  all_goals exact ff h
theorem inv_tup {es} (h : chkE G sc w (.tup es) e = true) : ∃ l k p, e = .Tuple l k p ∧ chkEs G sc es l = true := by
  cases e
  case Tuple l k p => exact ⟨l, k, p, rfl, h⟩
  all_goals exact ff h
theorem inv_lst {es} (h : chkE G sc w (.lst es) e = true) : ∃ l p, e = .List l p ∧ chkEs G sc es l = true := by
  cases e
  case List l p => exact ⟨l, p, rfl, h⟩
  all_goals exact ff h
theorem inv_bin {o a b} (h : chkE G sc w (.bin o a b) e = true) : ∃ l r p, e = .BinOp l (opOf o) r p ∧ chkE G sc true a l = true ∧ chkE G sc true b r = true := by
  cases e
  case BinOp l q r p =>
    have h' : (q == opOf o && chkE G sc true a l && chkE G sc true b r) = true := h
    simp only [Bool.and_eq_true] at h'
    exact ⟨l, r, p, by rw [eq_of_beq h'.1.1], h'.1.2, h'.2⟩
  all_goals exact ff h
theorem inv_neg {a} (h : chkE G sc w (.neg a) e = true) : ∃ l p, e = .UnaryOp .USub l p ∧ chkE G sc false a l = true := by
  cases e
  case UnaryOp q l p =>
    cases q
    case USub => exact ⟨l, p, rfl, h⟩
    all_goals exact ff h
  all_goals exact ff h
theorem inv_not {a} (h : chkE G sc w (.not a) e = true) : ∃ l p, e = .UnaryOp .Not l p ∧ chkE G sc true a l = true := by
  cases e
  case UnaryOp q l p =>
    cases q
    case Not => exact ⟨l, p, rfl, h⟩
    all_goals exact ff h
  all_goals exact ff h
theorem inv_cmp {o a b} (h : chkE G sc w (.cmp o a b) e = true) : ∃ l r p, e = .Compare l [cmOf o] [r] p ∧ chkE G sc true a l = true ∧ chkE G sc true b r = true ∧ behindInMarks (cmOf o) r = false := by
  cases e
  case Compare l qs rs p =>
    match qs, rs, h with
    | [q], [r], h =>
      have h' : (q == cmOf o && chkE G sc true a l && chkE G sc true b r && !behindInMarks q r) = true := h
      simp only [Bool.and_eq_true] at h'
      obtain ⟨⟨⟨h1, h2⟩, h3⟩, h4⟩ := h'
      obtain rfl := eq_of_beq h1
      exact ⟨l, r, p, rfl, h2, h3, by simpa using h4⟩
    | [], _, h => cases a <;> exact ff h
    | [_], [], h => exact ff h
    | [_], _ :: _ :: _, h => exact ff h
    | _ :: _ :: _, _, h => exact ff h
  all_goals exact ff h
theorem inv_chain {o o' a b c} (h : chkE G sc w (.chain o o' a b c) e = true) : ∃ l r r' p, e = .Compare l [cmOf o, cmOf o'] [r, r'] p ∧ chkE G sc true a l = true ∧ chkE G sc true b r = true ∧ chkE G sc true c r' = true ∧ lastMarks [cmOf o, cmOf o'] [r, r'] = false := by
  cases e
  case Compare l qs rs p =>
    match qs, rs, h with
    | [q, q'], [r, r'], h =>
      have h' : (q == cmOf o && q' == cmOf o' && chkE G sc true a l && chkE G sc true b r && chkE G sc true c r' && !lastMarks [q, q'] [r, r']) = true := h
      simp only [Bool.and_eq_true] at h'
      obtain ⟨⟨⟨⟨⟨h1, h1'⟩, h2⟩, h3⟩, h4⟩, h5⟩ := h'
      obtain rfl := eq_of_beq h1
      obtain rfl := eq_of_beq h1'
      exact ⟨l, r, r', p, rfl, h2, h3, h4, by simpa using h5⟩
    | [], _, h => exact ff h
    | [_], _, h => exact ff h
    | [_, _], [], h => exact ff h
    | [_, _], [_], h => exact ff h
    | [_, _], _ :: _ :: _ :: _, h => exact ff h
    | _ :: _ :: _ :: _, _, h => exact ff h
  all_goals exact ff h
theorem inv_and {a b} (h : chkE G sc w (.and a b) e = true) : ∃ x y r p, e = .BoolOp .And (x :: y :: r) p ∧ chkE G sc false a x = true ∧ chkE G sc false b (.BoolOp .And (y :: r) p) = true := by
  cases e
  case BoolOp q xs p =>
    match q, xs, h with
    | .And, x :: y :: r, h =>
      have h' : (chkE G sc false a x && chkE G sc false b (.BoolOp .And (y :: r) p)) = true := h
      rw [Bool.and_eq_true] at h'
      exact ⟨x, y, r, p, rfl, h'.1, h'.2⟩
    | .And, [], h => exact ff h
    | .And, [_], h => exact ff h
    | .Or, _, h => exact ff h
  all_goals exact ff h
theorem inv_or {a b} (h : chkE G sc w (.or a b) e = true) : ∃ x y r p, e = .BoolOp .Or (x :: y :: r) p ∧ chkE G sc false a x = true ∧ chkE G sc false b (.BoolOp .Or (y :: r) p) = true := by
  cases e
  case BoolOp q xs p =>
    match q, xs, h with
    | .Or, x :: y :: r, h =>
      have h' : (chkE G sc false a x && chkE G sc false b (.BoolOp .Or (y :: r) p)) = true := h
      rw [Bool.and_eq_true] at h'
      exact ⟨x, y, r, p, rfl, h'.1, h'.2⟩
    | .Or, [], h => exact ff h
    | .Or, [_], h => exact ff h
    | .And, _, h => exact ff h
  all_goals exact ff h
theorem inv_one {a} (h : chkE G sc w (.one a) e = true) : ∃ q x p, e = .BoolOp q [x] p ∧ chkE G sc false a x = true := by
  cases e
  case BoolOp q xs p =>
    match xs, h with
    | [x], h => exact ⟨q, x, p, rfl, h⟩
    | [], h => exact ff h
    | _ :: _ :: _, h => exact ff h
  all_goals exact ff h
theorem inv_ite {c a b} (h : chkE G sc w (.ite c a b) e = true) : ∃ x y z p, e = .IfExp x y z p ∧ chkE G sc false c x = true ∧ chkE G sc false a y = true ∧ chkE G sc false b z = true := by
  cases e
  case IfExp x y z p =>
    have h' : (chkE G sc false c x && chkE G sc false a y && chkE G sc false b z) = true := h
    simp only [Bool.and_eq_true] at h'
    exact ⟨x, y, z, p, rfl, h'.1.1, h'.1.2, h'.2⟩
  all_goals exact ff h
theorem inv_sub {a i} (h : chkE G sc w (.sub a i) e = true) : ∃ x y p, e = .Subscript x y p ∧ chkE G sc true a x = true ∧ chkE G sc false i y = true ∧ plainSub y = true := by
  cases e
  case Subscript x y p =>
    have h' : (chkE G sc true a x && chkE G sc false i y && plainSub y) = true := h
    simp only [Bool.and_eq_true] at h'
    exact ⟨x, y, p, rfl, h'.1.1, h'.1.2, h'.2⟩
  all_goals exact ff h
theorem inv_sl {a lo hi} (h : chkE G sc w (.sl a lo hi) e = true) : ∃ x l u p2 p, e = .Subscript x (.Slice l u none p2) p ∧ chkE G sc true a x = true ∧ chkO G sc lo l = true ∧ chkO G sc hi u = true := by
  cases e
  case Subscript x y p =>
    cases y
    case Slice l u st p2 =>
      cases st
      case none =>
        have h' : (chkE G sc true a x && chkO G sc lo l && chkO G sc hi u) = true := h
        simp only [Bool.and_eq_true] at h'
        exact ⟨x, l, u, p2, p, rfl, h'.1.1, h'.1.2, h'.2⟩
      case some => exact ff h
    all_goals exact ff h
  all_goals exact ff h
theorem inv_call {f es} (h : chkE G sc w (.call f es) e = true) : ∃ x p y l p', e = .Call (.Name x p) (y :: l) [] p' ∧ fnIs G f x = true ∧ isGl sc x = true ∧ okN x = true ∧ chkAs G sc false es (y :: l) = true := by
  cases e
  case Call g as ks p' =>
    match g, as, ks, h with
    | .Name x p, y :: l, [], h =>
      have h' : (fnIs G f x && isGl sc x && okN x && chkAs G sc false es (y :: l)) = true := h
      simp only [Bool.and_eq_true] at h'
      exact ⟨x, p, y, l, p', rfl, h'.1.1.1, h'.1.1.2, h'.1.2, h'.2⟩
    | g, [], ks, h => cases g <;> exact ff h
    | g, _ :: _, _ :: _, h => cases g <;> exact ff h
    | g, _ :: _, [], h =>
      cases g
      case Name x p =>
        rename_i y l
        have h' : (fnIs G f x && isGl sc x && okN x && chkAs G sc false es (y :: l)) = true := h
        simp only [Bool.and_eq_true] at h'
        exact ⟨x, p, y, l, p', rfl, h'.1.1.1, h'.1.1.2, h'.1.2, h'.2⟩
      all_goals exact ff h
  all_goals exact ff h
theorem inv_blt {b es} (h : chkE G sc w (.blt b es) e = true) : ∃ p y l p', e = .Call (.Name (bltName b) p) (y :: l) [] p' ∧ isGl sc (bltName b) = true ∧ okN (bltName b) = true ∧ chkAs G sc true es (y :: l) = true := by
  cases e
  case Call g as ks p' =>
    cases g
    case Name x p =>
      match as, ks, h with
      | y :: l, [], h =>
        have h' : (x == bltName b && isGl sc x && okN x && chkAs G sc true es (y :: l)) = true := h
        simp only [Bool.and_eq_true] at h'
        obtain ⟨⟨⟨h1, h2⟩, h3⟩, h4⟩ := h'
        obtain rfl := eq_of_beq h1
        exact ⟨p, y, l, p', rfl, h2, h3, h4⟩
      | [], _, h => exact ff h
      | _ :: _, _ :: _, h => exact ff h
    all_goals exact ff h
  all_goals exact ff h
theorem inv_cnt {a x} (h : chkE G sc w (.cnt a x) e = true) : ∃ z zp ap y cp, e = .Call (.Attribute (.Name z zp) "count" ap) [y] [] cp ∧ chkE G sc true a (.Name z zp) = true ∧ plainE y = true ∧ chkE G sc false x y = true ∧ (ap.endLine == cp.line) = true := by
  cases e
  case Call g as ks cp =>
    cases g
    case Attribute o m ap =>
      cases o
      case Name z zp =>
        match as, ks, h with
        | [y], [], h =>
          have h' : (m == ("count" : Str) && chkE G sc true a (.Name z zp) && plainE y && chkE G sc false x y && ap.endLine == cp.line) = true := h
          simp only [Bool.and_eq_true] at h'
          obtain ⟨⟨⟨⟨h1, h2⟩, h3⟩, h4⟩, h5⟩ := h'
          obtain rfl := eq_of_beq h1
          exact ⟨z, zp, ap, y, cp, rfl, h2, h3, h4, h5⟩
        | [], _, h => exact ff h
        | _ :: _ :: _, _, h => exact ff h
        | [_], _ :: _, h => exact ff h
      all_goals exact ff h
    all_goals exact ff h
  all_goals exact ff h
theorem inv_idx {a x} (h : chkE G sc w (.idx a x) e = true) : ∃ z zp ap y cp, e = .Call (.Attribute (.Name z zp) "index" ap) [y] [] cp ∧ chkE G sc true a (.Name z zp) = true ∧ plainE y = true ∧ chkE G sc false x y = true ∧ (ap.endLine == cp.line) = true := by
  cases e
  case Call g as ks cp =>
    cases g
    case Attribute o m ap =>
      cases o
      case Name z zp =>
        match as, ks, h with
        | [y], [], h =>
          have h' : (m == ("index" : Str) && chkE G sc true a (.Name z zp) && plainE y && chkE G sc false x y && ap.endLine == cp.line) = true := h
          simp only [Bool.and_eq_true] at h'
          obtain ⟨⟨⟨⟨h1, h2⟩, h3⟩, h4⟩, h5⟩ := h'
          obtain rfl := eq_of_beq h1
          exact ⟨z, zp, ap, y, cp, rfl, h2, h3, h4, h5⟩
        | [], _, h => exact ff h
        | _ :: _ :: _, _, h => exact ff h
        | [_], _ :: _, h => exact ff h
      all_goals exact ff h
    all_goals exact ff h
  all_goals exact ff h
theorem inv_dget {a k z} (h : chkE G sc w (.dget a k z) e = true) : ∃ x xp ap y f cp, e = .Call (.Attribute (.Name x xp) "get" ap) [y, f] [] cp ∧ chkE G sc false a (.Name x xp) = true ∧ plainE y = true ∧ plainE f = true ∧ chkE G sc false k y = true ∧ chkE G sc false z f = true ∧ (ap.endLine == cp.line) = true := by
  cases e
  case Call g as ks cp =>
    cases g
    case Attribute o m ap =>
      cases o
      case Name x xp =>
        match as, ks, h with
        | [y, f], [], h =>
          have h' : (m == ("get" : Str) && chkE G sc false a (.Name x xp) && plainE y && plainE f && chkE G sc false k y && chkE G sc false z f && ap.endLine == cp.line) = true := h
          simp only [Bool.and_eq_true] at h'
          obtain ⟨⟨⟨⟨⟨⟨h1, h2⟩, h3⟩, h4⟩, h5⟩, h6⟩, h7⟩ := h'
          obtain rfl := eq_of_beq h1
          exact ⟨x, xp, ap, y, f, cp, rfl, h2, h3, h4, h5, h6, h7⟩
        | [], _, h => exact ff h
        | [_], _, h => exact ff h
        | _ :: _ :: _ :: _, _, h => exact ff h
        | [_, _], _ :: _, h => exact ff h
      all_goals exact ff h
    all_goals exact ff h
  all_goals exact ff h
theorem inv_dlitI {is es} (h : chkE G sc w (.dlitI is es) e = true) : ∃ keys vals p, e = .Dict keys vals p ∧ chkKn G sc is keys = true ∧ chkAs G sc false es vals = true ∧ keys.length = vals.length := by
  cases e
  case Dict keys vals p =>
    have h' : (chkKn G sc is keys && chkAs G sc false es vals && decide (keys.length = vals.length)) = true := h
    simp only [Bool.and_eq_true, decide_eq_true_eq] at h'
    exact ⟨keys, vals, p, rfl, h'.1.1, h'.1.2, h'.2⟩
  all_goals exact ff h
theorem inv_sset {a} (h : chkE G sc w (.sset a) e = true) : ∃ p p2 y p3 p4, e = .Call (.Name "sorted" p) [.Call (.Name "set" p2) [y] [] p3] [] p4 ∧ isGl sc "sorted" = true ∧ isGl sc "set" = true ∧ plainE y = true ∧ chkE G sc true a y = true := by
  cases e
  case Call g as ks p4 =>
    cases g
    case Name x p =>
      match as, ks, h with
      | [.Call (.Name z p2) [y] [] p3], [], h =>
        have h' : (x == ("sorted" : Str) && isGl sc x && z == ("set" : Str) && isGl sc z && plainE y && chkE G sc true a y) = true := h
        simp only [Bool.and_eq_true] at h'
        obtain ⟨⟨⟨⟨⟨h1, h2⟩, h3⟩, h4⟩, h5⟩, h6⟩ := h'
        obtain rfl := eq_of_beq h1
        obtain rfl := eq_of_beq h3
        exact ⟨p, p2, y, p3, p4, rfl, h2, h4, h5, h6⟩
    all_goals exact ff h
  all_goals exact ff h
theorem inv_dlit {ks es} (h : chkE G sc w (.dlit ks es) e = true) : ∃ keys vals p, e = .Dict keys vals p ∧ chkKy ks keys = true ∧ chkAs G sc false es vals = true ∧ keys.length = vals.length := by
  cases e
  case Dict keys vals p =>
    have h' : (chkKy ks keys && chkAs G sc false es vals && decide (keys.length = vals.length)) = true := h
    simp only [Bool.and_eq_true, decide_eq_true_eq] at h'
    exact ⟨keys, vals, p, rfl, h'.1.1, h'.1.2, h'.2⟩
  all_goals exact ff h
theorem inv_isi {t a} (h : chkE G sc w (.isi t a) e = true) : ∃ p y p2 p', e = .Call (.Name "isinstance" p) [y, .Name (tyName t) p2] [] p' ∧ isGl sc "isinstance" = true ∧ isGl sc (tyName t) = true ∧ plainE y = true ∧ chkE G sc true a y = true := by
  cases e
  case Call g as ks p' =>
    cases g
    case Name x p =>
      match as, ks, h with
      | [y, .Name z p2], [], h =>
        have h' : (x == ("isinstance" : Str) && isGl sc x && z == tyName t && isGl sc z && plainE y && chkE G sc true a y) = true := h
        simp only [Bool.and_eq_true] at h'
        obtain ⟨⟨⟨⟨⟨h1, h2⟩, h3⟩, h4⟩, h5⟩, h6⟩ := h'
        obtain rfl := eq_of_beq h1
        obtain rfl := eq_of_beq h3
        exact ⟨p, y, p2, p', rfl, h2, h4, h5, h6⟩
      | [], _, h => exact ff h
      | [_], _, h => exact ff h
      | _ :: _ :: _ :: _, _, h => simp [chkE] at h
      | [_, q], _ :: _, h => cases q <;> exact ff h
      | [y, q], [], h =>
        cases q
        case Name z p2 =>
          have h' : (x == ("isinstance" : Str) && isGl sc x && z == tyName t && isGl sc z && plainE y && chkE G sc true a y) = true := h
          simp only [Bool.and_eq_true] at h'
          obtain ⟨⟨⟨⟨⟨h1, h2⟩, h3⟩, h4⟩, h5⟩, h6⟩ := h'
          obtain rfl := eq_of_beq h1
          obtain rfl := eq_of_beq h3
          exact ⟨p, y, p2, p', rfl, h2, h4, h5, h6⟩
        all_goals exact ff h
    all_goals exact ff h
  all_goals exact ff h
theorem inv_rev {a} (h : chkE G sc w (.rev a) e = true) : ∃ x kk p1 p2 p3 p, e = .Subscript x (.Slice none none (some (.UnaryOp .USub (.Constant (.int 1) kk p1) p2)) p3) p ∧ chkE G sc true a x = true := by
  cases e
  case Subscript x y p =>
    cases y
    case Slice l u st p3 =>
      cases l with
      | some _ => exact ff h
      | none =>
      cases u with
      | some _ => exact ff h
      | none =>
      cases st with
      | none => exact ff h
      | some z =>
      cases z
      case UnaryOp q z p2 =>
        cases q
        case USub =>
          cases z
          case Constant cc kk p1 =>
            cases cc
            case int n =>
              by_cases hn : n = 1
              · subst hn
                exact ⟨x, kk, p1, p2, p3, p, rfl, h⟩
              · exfalso
                simp [chkE, hn] at h
            all_goals exact ff h
          all_goals exact ff h
        all_goals exact ff h
      all_goals exact ff h
    all_goals exact ff h
  all_goals exact ff h
end
end Ev

set_option Elab.async false
set_option linter.all false
set_option maxRecDepth 100000
set_option maxHeartbeats 4000000
/-! enumerate over a tuple. -/
namespace Ev
open PySem PySem.Spec PyProof.Rows L2
open AutoSeq1 (wpAny_loadPart')
theorem enum_newT (l : Addr) (o : Obj) (items : Array Value) (hL : ∀ h : Heap, h.get? l = some o → h.IsTuple l items) :
    Meets (Builtin.«enumerate.__new__» ⟨[.type "enumerate", .ref l], []⟩) (fun _ R s => s.heap.get? l = some o ∧
      R (.ok (.ret (.ref (s.heap.push { cls := .type "tuple_iterator", data := .fields #[.ref l, .int 0 0] }).objs.size)))
        { s with heap := (s.heap.push { cls := .type "tuple_iterator", data := .fields #[.ref l, .int 0 0] }).push { cls := .type "enumerate", data := .fields #[.none, .bool false, .ref s.heap.objs.size, rawInt 0, .none, .none] } }) :=
  .of_wp fun prog w A R s h => by
    obtain ⟨hp, g, d, tk, os⟩ := s; obtain ⟨hl, h⟩ := h
    have hsub := sub_enumerate
    have hT : Heap.IsTuple (Shared.heap ⟨hp, g, d, tk, os⟩) l items := hL _ hl
    wp_walk using wpAny_loadPart' hl
    refine wpAny_stack_any fun st => wpAny_pure ?_
    split
    · rename_i c _ _ _ _ _
      cases (c == Value.type "enumerate") <;> (wp_walk using wpAny_loadPart' hl, wpAny_pyIter_tuple hT; exact ⟨_, rfl, h⟩)
    · wp_walk using wpAny_loadPart' hl, wpAny_pyIter_tuple hT
      exact ⟨_, rfl, h⟩
section
variable {prog : Program} {w : World} {A : Around} {E : Value → Shared → Prop} {s : Shared}
theorem call_enumT {l : Addr} {items : Array Value} {Q : Value → Shared → Prop} (hL : s.heap.IsTuple l items)
    (h : ∀ h', IsEnum h' (s.heap.objs.size + 1) s.heap.objs.size 0 .none → h'.IsTupleIter s.heap.objs.size l 0 → h'.objs.size = s.heap.objs.size + 2 → (∀ b o, s.heap.get? b = some o → h'.get? b = some o) → Q (.ref (s.heap.objs.size + 1)) { s with heap := h' }) :
    wpAny (model prog w) A (call (.type "enumerate") [.ref l]) Q E s := by
  obtain ⟨o, hl, hc, n, hd⟩ := id hL
  refine callType_new PySem.F.called_enumerate (by decide) (PySem.F.typeCall_enumerate_1 _) (PySem.F.newCall_enumerate_1 _) (fun obj => PySem.F.args_object_init_2 obj _) PySem.F.entry_enumerate_new (enum_newT l o items fun h' e => ⟨o, e, hc, n, hd⟩) ⟨hl, ?_⟩
  have hz : (s.heap.push { cls := .type "tuple_iterator", data := .fields #[.ref l, .int 0 0] }).objs.size = s.heap.objs.size + 1 := Heap.size_push ..
  show _ ∧ _
  rw [hz]
  have he : IsEnum ((s.heap.push { cls := .type "tuple_iterator", data := .fields #[.ref l, .int 0 0] }).push { cls := .type "enumerate", data := .fields #[.none, .bool false, .ref s.heap.objs.size, rawInt 0, .none, .none] }) (s.heap.objs.size + 1) s.heap.objs.size 0 .none := by
    have q := Heap.get?_push_size (s.heap.push { cls := .type "tuple_iterator", data := .fields #[.ref l, .int 0 0] }) (o := { cls := .type "enumerate", data := .fields #[.none, .bool false, .ref s.heap.objs.size, rawInt 0, .none, .none] }) rfl
    rw [hz] at q; exact q
  exact ⟨⟨_, he, rfl⟩, h _ he ⟨_, Heap.get?_push_of_some _ (Heap.get?_push_size _ rfl), rfl, rfl⟩ (by rw [Heap.size_push, hz]) fun b u x => Heap.get?_push_of_some _ (Heap.get?_push_of_some _ x)⟩
end
def IteT (K : PySem.W.Frag) (a : Addr) : It :=
  ⟨fun i H => ∃ (xs : List V) (x : V), SqT K H a xs ∧ xs[i]? = some x, fun i H v H' => ∃ T x, v = .ref T ∧ H T = none ∧ H' = upd H T (.tup [.int (i : Nat), x]) ∧ ∀ xs, SqT K H a xs → xs[i]? = some x, fun i H => ∃ xs : List V, SqT K H a xs ∧ xs.length ≤ i⟩
theorem turn_enumT {P : Program} {w : World} {K : PySem.W.Frag} {elts : List Expr} {kk : Nat} {tpos : Pos} (a e it : Addr) (hae : a ≠ e) (hai : a ≠ it) (hei : e ≠ it) :
    Turn P w K (.Tuple elts kk tpos) (IteT K a) [e, it] e (fun i h => (∃ old, IsEnum h e it ((i : Nat) : Int) old) ∧ h.IsTupleIter it a i) where
  mem := by simp
  obj := fun i h st b hb => by
    obtain ⟨⟨old, he⟩, ⟨o, ho, hc, hd⟩⟩ := st
    rcases (show b = e ∨ b = it by simpa using hb) with rfl | rfl
    · exact ⟨_, he, fun v q => nomatch q⟩
    · exact ⟨o, ho, fun v q => by rw [hd] at q; cases q⟩
  keep := fun i h h' st k => let ⟨⟨old, he⟩, hi⟩ := st; ⟨⟨old, k e (by simp) _ he⟩, hi.at fun o q => k it (by simp) o q⟩
  item := by
    intro X hP hw hK hc i pins s σ H E I hf st hg
    subst hP hw hK
    obtain ⟨⟨old, he⟩, hit⟩ := st
    obtain ⟨xs, x, hq, hx⟩ := hg
    obtain ⟨its, rv, p, hz⟩ := I.tuple hq
    obtain ⟨u, hu, ru⟩ := rv.get hx
    have hel : e < s.heap.objs.size := Heap.lt_size he
    have hil : it < s.heap.objs.size := by obtain ⟨_, q, _⟩ := hit; exact Heap.lt_size q
    have hlt : i < its.toArray.size := by
      rw [List.size_toArray, ← rv.length]
      exact (List.getElem?_eq_some_iff.mp hx).1
    refine wpAny_pyNext_enum_itemD (Draws.tuple (A := X.A.in1) (I.ok.hd hc) it a hai its.toArray) he ⟨hit, p⟩ hlt hei (by simp [hei, Ne.symm hae]) fun y h' tk hy ho hst hT hsz hk => ?_
    have ey : y = u := by
      rw [List.getElem?_toArray, hu] at hy
      exact (Option.some.inj hy).symm
    subst ey
    refine ⟨_, rfl, wpAny_letOwnedTupleGo_enum (s := { s with heap := h', toks := tk + 1 }) ho fun h'' he' sb => ?_⟩
    have hT2 : h''.get? s.heap.objs.size = some { cls := .type "tuple", data := .seq #[.int i tk, y] } := (sb.2 _ (Nat.ne_of_gt hel)).trans hT
    have new : ObjOk X.prog X.w (upd H s.heap.objs.size (.tup [.int (i : Nat), x])) h'' s.heap.objs.size (.tup [.int (i : Nat), x]) := ⟨by show 2 ≤ sizeLine; decide, [.int i tk, y], .cons ⟨_, rfl⟩ (.cons ru .nil), ⟨_, hT2, rfl, _, rfl⟩⟩
    have I1 : Inv X pins σ (upd H s.heap.objs.size (.tup [.int (i : Nat), x])) { s with heap := h'', toks := tk + 1 } :=
      I.turnedNew (ch := [e, it]) (fun b ob hb q => (sb.2 b (fun z => hb (by simp [z]))).trans (hk b ob (fun z => hb (by simp [z])) (fun z => hb (by simp [z])) q)) hf (Nat.le_refl _) new
    refine ⟨.ref s.heap.objs.size, _, I1, rfl, ⟨_, x, rfl, I.hok.fresh (Nat.le_refl _), rfl, fun ys hy => by rw [I.tuple_inj hy hq]; exact hx⟩, ⟨⟨y, ?_⟩, hst.1.at fun o q => (sb.2 it (Ne.symm hei)).trans q⟩, fun b hb => ?_⟩
    · rw [show ((i + 1 : Nat) : Int) = (i : Int) + 1 by omega]; exact he'
    · have hb' : b < s.heap.objs.size := by
        rcases (show b = e ∨ b = it by simpa using hb) with rfl | rfl
        · exact hel
        · exact hil
      rw [upd_ne (Nat.ne_of_lt hb')]
      exact (hf b hb).1
  done := by
    intro X hP hw hK hc i pins s σ H E I hf st hg
    subst hP hw hK
    obtain ⟨⟨old, he⟩, hit⟩ := st
    obtain ⟨xs, hq, hx⟩ := hg
    obtain ⟨its, rv, p, hz⟩ := I.tuple hq
    obtain ⟨f0, f1, f2, f3, f4, f5⟩ := hf it (by simp)
    have hl := rv.length
    have hT : s.TypeIs (.ref e) "enumerate" := ⟨_, he, rfl⟩
    unfold pyNext
    refine wpAny_bind (wpAny_attempt (wpAny_callSpecial?_slot (name := Str.ofString "__next__") hT PySem.F.slot_enumerate_next (wpAny_call_entry PySem.F.slot_enumerate_next hT PySem.F.entry_enumerate_next ?_ (PySem.F.args_enumerate_next_1 _))))
    show wpAny _ _ (field (.ref e) 2 >>= _) _ _ _
    refine wpAny_bind (wpAny_field he rfl (x := .ref it) rfl (wpAny_bind (wpAny_nextOf_tuple_end (show X.A.in1.handled = none from I.ok.hd hc) hit p (by simp; omega) fun h' x heb hx' => ?_)))
    obtain ⟨o, ho, hco⟩ := hx'
    exact wpAny_bind (wpAny_isInstance (T := "StopIteration") (b := true) ⟨o, ho, hco⟩ isSubtype_stop (wpAny_pure ⟨rfl, I.turned (t' := s.toks) (fun b o hb q => heb b o hb q) f0 f1 f3 f4 f5⟩))
  self := fun A i s Q E st h => let ⟨⟨_, he⟩, _⟩ := st; wpAny_pyIter_enum he h
def iEn (K : PySem.W.Frag) (ta : TA) : TI := fun σ H R => ta σ H fun vs H1 => ∃ a xs, vs = [.ref a] ∧ ((SqL K H1 a xs ∧ R (Ite K a) H1) ∨ (SqT K H1 a xs ∧ R (IteT K a) H1))
theorem pi_en {X : Cx} {e : Expr} {ta : TA} {p pos tpos : Pos} {elts : List Expr} {kk : Nat} (hg : Gl X "enumerate") (hm : X.mg "enumerate" = none) (ha : PA X [e] ta) (hs : starEach [e] X.env = [(false, eval e X.env)]) :
    PI X (.Tuple elts kk tpos) (.Call (.Name "enumerate" p) [e] [] pos) (iEn X.K ta) := by
  refine ⟨fun pins s σ H R I h => Call_ (ld_blt I hg hm boot_enumerate (PyProof.Rows.callWith_type1 (thn (ha.run pos pins s σ H _ I h) fun us s1 ⟨vs, H1, I1, r1, a, xs, ex, q1⟩ => ?_) hs rfl))⟩
  subst ex
  cases r1 with
  | cons r rr =>
    cases rr
    cases r
    rcases q1 with ⟨hq, q⟩ | ⟨hq, q⟩
    · obtain ⟨its, rv, p', hz⟩ := I1.list hq
      refine call_enumerate_list p'.isList fun h' he hit hsz hk => wpAny_pyIter_enum he ?_
      refine ⟨s1.heap.objs.size + 1, [s1.heap.objs.size + 1, s1.heap.objs.size], _, _, H1, rfl, I1.kept (t' := s1.toks) hk, turn_enum a (s1.heap.objs.size + 1) s1.heap.objs.size, ⟨⟨.none, he⟩, hit, Nat.succ_ne_self _⟩, fun b hb => ?_, q⟩
      have hle : s1.heap.objs.size ≤ b := by
        rcases (show b = s1.heap.objs.size + 1 ∨ b = s1.heap.objs.size by simpa using hb) with z | z
        · rw [z]; exact Nat.le_succ _
        · rw [z]; exact Nat.le_refl _
      exact I1.fpOk hle (I1.hok.fresh hle)
    · obtain ⟨its, rv, p', hz⟩ := I1.tuple hq
      have hlt : a < s1.heap.objs.size := by obtain ⟨o, e, _⟩ := id p'; exact Heap.lt_size e
      refine call_enumT p' fun h' he hit hsz hk => wpAny_pyIter_enum he ?_
      refine ⟨s1.heap.objs.size + 1, [s1.heap.objs.size + 1, s1.heap.objs.size], _, _, H1, rfl, I1.kept (t' := s1.toks) hk, turn_enumT a (s1.heap.objs.size + 1) s1.heap.objs.size (Nat.ne_of_lt (Nat.lt_succ_of_lt hlt)) (Nat.ne_of_lt hlt) (Nat.succ_ne_self _), ⟨⟨.none, he⟩, hit⟩, fun b hb => ?_, q⟩
      have hle : s1.heap.objs.size ≤ b := by
        rcases (show b = s1.heap.objs.size + 1 ∨ b = s1.heap.objs.size by simpa using hb) with z | z
        · rw [z]; exact Nat.le_succ _
        · rw [z]; exact Nat.le_refl _
      exact I1.fpOk hle (I1.hok.fresh hle)
end Ev

set_option Elab.async false
set_option linter.all false
set_option maxRecDepth 100000
set_option maxHeartbeats 4000000
/-! The term's value is the text's: one rule for each form of expression. -/
namespace Ev
open PySem PySem.Spec PyProof.Rows L2

def isBO : Expr → Bool
  | .BoolOp .. => true
  | _ => false
structure SE (G : Ga) (F : FT) (k : Nat) (ce : CE) : Prop where
  s : ∀ {X : Cx} {e : Expr}, Cd G F k X → chkE G X.env.scope false ce e = true → PE X e (tS X.K F ce)
  w : ∀ {X : Cx} {e : Expr} {w : Bool}, Cd G F k X → chkE G X.env.scope w ce e = true → PE X e (tW X.K F ce)
  t : ∀ {X : Cx} {e : Expr} {w : Bool}, Cd G F k X → chkE G X.env.scope w ce e = true → PT X e (tT X.K F ce)
  b : ∀ {X : Cx} {e : Expr} {w : Bool}, Cd G F k X → chkE G X.env.scope w ce e = true → isBO e = true → PW X e (tT X.K F ce)
structure SEs (G : Ga) (F : FT) (k : Nat) (ces : CEs) : Prop where
  a : ∀ {X : Cx} {l : List Expr}, Cd G F k X → chkEs G X.env.scope ces l = true → PA X l (tAs X.K F ces)
  p : ∀ {X : Cx} {l : List Expr}, Cd G F k X → chkAs G X.env.scope false ces l = true → PA X l (tAs X.K F ces)
  q : ∀ {X : Cx} {l : List Expr}, Cd G F k X → chkAs G X.env.scope true ces l = true → PA X l (tAw X.K F ces)
def tO (K : PySem.W.Frag) (F : FT) (ce : CEo) : TO := fun σ H Q => ∃ (cs : List Addr) (Av : Addr → Prop) (ρ : Rho) (st : Sto) (r : Option D) (i : Option Int) (st' : Sto),
  AvOk cs Av H ∧ Cl K cs Av H st ∧ En K cs Av H σ ρ ∧ evO F ce ρ st = some (r, st') ∧ asInt? r = some i ∧ ∀ H', Ext cs H H' → Cl K cs Av H' st' → Q i H'
structure SO (G : Ga) (F : FT) (k : Nat) (ce : CEo) : Prop where
  o : ∀ {X : Cx} {e : Option Expr}, Cd G F k X → chkO G X.env.scope ce e = true → PO X e (tO X.K F ce)

def plainT : Expr → Bool
  | .UnaryOp .Not .. => false
  | .BoolOp .. => false
  | .IfExp .. => false
  | .Compare .. => false
  | _ => true
theorem plainT_is {e : Expr} {env : Env} (h : plainT e = true) (whole : Sem Value) : isTrue e env whole = (do let v ← whole; standAt e.pos; holding [v] (truthy v)) := by
  cases e
  case UnaryOp o x p => cases o <;> first | rfl | exact ff h
  all_goals first | rfl | exact ff h
section
variable {G : Ga} {F : FT} {k : Nat} {X : Cx} {e : Expr} {ce a b c : CE} {w : Bool}
theorem tS_w (h : PE X e (tS X.K F ce)) : PE X e (tW X.K F ce) :=
  PEimp h fun σ H Q ⟨cs, Av, ρ, st, r, st', ok, cl, en, he, q⟩ => ⟨cs, Av, ρ, st, r, st', ok, cl, en, he, fun v H' ex cl' rp => q v H' ex cl' (rp.1.w ok)⟩
theorem tW_t (h : PE X e (tW X.K F ce)) (hp : plainT e = true) : PT X e (tT X.K F ce) :=
  PTimp (pt_truth h (plainT_is hp)) fun σ H Q ⟨cs, Av, ρ, st, r, st', b, ok, cl, en, he, ht, q⟩ => ⟨cs, Av, ρ, st, r, st', ok, cl, en, he, fun v H' ex cl' rw => ⟨b, tru_of rw ht, q H' ex cl'⟩⟩
theorem SE.of (h : ∀ {X : Cx} {e : Expr} {w : Bool}, Cd G F k X → chkE G X.env.scope w ce e = true → PE X e (tS X.K F ce)) (hp : ∀ {sc : Scope} {e : Expr} {w : Bool}, chkE G sc w ce e = true → plainT e = true ∧ isBO e = false) : SE G F k ce :=
  ⟨fun c x => h c x, fun c x => tS_w (h c x), fun c x => tW_t (tS_w (h c x)) (hp x).1, fun c x hb => by rw [(hp x).2] at hb; cases hb⟩

/-! ### leaves -/
theorem se_var (i : Nat) : SE G F k (.var i) := SE.of (fun {X e w} c h => by
  obtain ⟨x, p, rfl, h⟩ := inv_var h
  refine PEimp (var_ok c h) fun σ H Q ⟨cs, Av, ρ, st, r, st', ok, cl, en, he, q⟩ => ?_
  simp only [evE] at he
  split at he
  · rename_i d hd
    cases he
    obtain ⟨u, h1, h2⟩ := slot_v en hd
    exact ⟨u, h1, q u H (Ext.refl _ _) cl (.vv h2)⟩
  · cases he) (fun h => by obtain ⟨x, p, rfl, _⟩ := inv_var h; exact ⟨rfl, rfl⟩)
theorem se_peek (i : Nat) : SE G F k (.peek i) := by
  have key : ∀ {X : Cx} {e : Expr} {w : Bool}, Cd G F k X → chkE G X.env.scope w (.peek i) e = true → PE X e (tW X.K F (.peek i)) := fun {X e w} c h => by
    obtain ⟨_, x, p, rfl, h'⟩ := inv_peek h
    refine PEimp (var_ok c h') fun σ H Q ⟨cs, Av, ρ, st, r, st', ok, cl, en, he, q⟩ => ?_
    simp only [evE] at he
    split at he
    · rename_i d hd
      cases he
      obtain ⟨a, vs, h1, h2, h3, h4, h5⟩ := slot_o en hd
      exact ⟨.ref a, h1, q _ H (Ext.refl _ _) cl (.inr ⟨a, vs, _, rfl, rfl, .inl h3, SqL.of h4, h5⟩)⟩
    · cases he
  refine ⟨fun c h => ?_, key, fun c h => tW_t (key c h) ?_, fun c h hb => ?_⟩
  · cases (inv_peek h).1
  · obtain ⟨_, x, p, rfl, _⟩ := inv_peek h; rfl
  · obtain ⟨_, x, p, rfl, _⟩ := inv_peek h; cases hb
theorem se_con (d : D) : SE G F k (.con d) := SE.of (fun {X e w} c h => by
  obtain ⟨cc, j, p, rfl, h⟩ := inv_con h
  obtain ⟨v, h1, h2⟩ := con_ok (X := X) (kk := j) (pos := p) h
  refine PEimp h1 fun σ H Q ⟨cs, Av, ρ, st, r, st', ok, cl, en, he, q⟩ => ?_
  simp only [evE] at he
  cases he
  exact q v H (Ext.refl _ _) cl (.vv (h2 _ _ _ _))) (fun h => by obtain ⟨cc, j, p, rfl, _⟩ := inv_con h; exact ⟨rfl, rfl⟩)
theorem se_gl (y : Str) (d : D) : SE G F k (.gl y d) := SE.of (fun {X e w} c h => by
  obtain ⟨x, p, rfl, h1, h2, h3⟩ := inv_gl h
  unfold cnIs at h3
  split at h3
  · rename_i d' hd
    obtain rfl := deq_eq h3
    obtain ⟨u, v, hm, rv, hr⟩ := c.g.cn _ _ hd
    refine PEimp (pe_glob (isGl_of h1) hm rv (okN_of h2).1) fun σ H Q ⟨cs, Av, ρ, st, r, st', ok, cl, en, he, q⟩ => ?_
    simp only [evE] at he
    cases he
    exact q v H (Ext.refl _ _) cl (.vv (hr _ _ _))
  · cases h3) (fun h => by obtain ⟨x, p, rfl, _⟩ := inv_gl h; exact ⟨rfl, rfl⟩)

/-! ### tuples, lists -/
theorem se_tup {es : CEs} (hs : SEs G F k es) : SE G F k (.tup es) := SE.of (fun {X e w} c h => by
  obtain ⟨l, kk, p, rfl, h⟩ := inv_tup h
  refine PEimp (pe_tupD (hs.a c h)) fun σ H Q ⟨cs, Av, ρ, st, r, st', ok, cl, en, he, q⟩ => ?_
  simp only [evE] at he
  split at he
  · rename_i ds st1 h1
    split at he
    · rename_i hl
      cases he
      refine ⟨cs, Av, ρ, st, ds, _, ok, cl, en, h1, fun vs H' ex cl' rs => ⟨?_, fun p o ho hp => ?_⟩⟩
      · rw [rs.length]; exact Nat.le_trans hl maxLen_le
      · have ok' := ok.ext ex cl'
        have z : Ext [] H' (upd H' p (.frz o (.tup vs))) := Ext.upd hp
        refine q _ _ (ex.trans z.all) (cl'.ext ok' z) (.vv ?_)
        exact .tup (SqD.new ho) (rs.ext ok' z.all)
    · cases he
  · cases he) (fun h => by obtain ⟨l, kk, p, rfl, _⟩ := inv_tup h; exact ⟨rfl, rfl⟩)
theorem se_lst {es : CEs} (hs : SEs G F k es) : SE G F k (.lst es) := SE.of (fun {X e w} c h => by
  obtain ⟨l, p, rfl, h⟩ := inv_lst h
  refine PEimp (pe_lst (hs.a c h)) fun σ H Q ⟨cs, Av, ρ, st, r, st', ok, cl, en, he, q⟩ => ?_
  simp only [evE] at he
  split at he
  · rename_i ds st1 h1
    split at he
    · rename_i hl
      cases he
      refine ⟨cs, Av, ρ, st, ds, _, ok, cl, en, h1, fun vs H' ex cl' rs => ⟨?_, fun p hp => ?_⟩⟩
      · rw [rs.length]; exact Nat.le_trans hl maxLen_le
      · have ok' := ok.ext ex cl'
        have z : Ext [] H' (upd H' p (.lst vs)) := Ext.upd hp
        refine q _ _ (ex.trans z.all) (cl'.ext ok' z) ?_
        exact RpS.fresh (r := .o ds) (lst_new ok' hp rs) ex ok' cl' z
    · cases he
  · cases he) (fun h => by obtain ⟨l, p, rfl, _⟩ := inv_lst h; exact ⟨rfl, rfl⟩)

/-! ### operators -/
theorem se_bin {o : Op2} (ha : SE G F k a) (hb : SE G F k b) : SE G F k (.bin o a b) := SE.of (fun {X e w} c h => by
  obtain ⟨l, r, p, rfl, h1, h2⟩ := inv_bin h
  refine PEimp (pe_op (op2_ok o) (ha.w c h1) (hb.w c h2)) fun σ H Q ⟨cs, Av, ρ, st, r, st', ok, cl, en, he, q⟩ => ?_
  simp only [evE] at he
  split at he
  · rename_i x st1 e1
    split at he
    · rename_i y st2 e2
      split at he
      · rename_i z e3
        cases he
        refine ⟨cs, Av, ρ, st, x, st1, ok, cl, en, e1, fun v H1 x1 c1 r1 => ?_⟩
        have ok1 := ok.ext x1 c1
        refine ⟨cs, Av, ρ, st1, y, _, ok1, c1, en.ext ok x1, e2, fun u H2 x2 c2 r2 => ?_⟩
        have ok2 := ok1.ext x2 c2
        refine ⟨cs, Av, x.d, y.d, _, ok2, r1.ext ok1 x2, r2, e3, fun v H' x3 r3 => ?_⟩
        exact q v H' ((x1.trans x2).trans x3.all) (c2.ext ok2 x3) (.fresh r3 (x1.trans x2) ok2 c2 x3)
      · cases he
    · cases he
  · cases he) (fun h => by obtain ⟨l, r, p, rfl, _⟩ := inv_bin h; exact ⟨rfl, rfl⟩)
theorem se_neg (ha : SE G F k a) : SE G F k (.neg a) := SE.of (fun {X e w} c h => by
  obtain ⟨l, p, rfl, h1⟩ := inv_neg h
  refine PEimp (pe_un un_neg (ha.s c h1)) fun σ H Q ⟨cs, Av, ρ, st, r, st', ok, cl, en, he, q⟩ => ?_
  simp only [evE] at he
  split at he
  · rename_i i st1 e1
    cases he
    refine ⟨cs, Av, ρ, st, _, _, ok, cl, en, e1, fun v H1 x1 c1 r1 => ?_⟩
    cases r1.1
    exact ⟨i, rfl, q _ H1 x1 c1 (.vv (.int _))⟩
  · cases he) (fun h => by obtain ⟨l, p, rfl, _⟩ := inv_neg h; exact ⟨rfl, rfl⟩)
theorem cmp2_bool {o : Cm} {d e z : D} (h : cmp2 o d e = some z) : ∃ b, z = .bool b := by
  unfold cmp2 at h
  split at h
  all_goals first
    | (cases h; done)
    | (split at h <;> cases h <;> exact ⟨_, rfl⟩)
    | (cases h; exact ⟨_, rfl⟩)
    | (obtain ⟨b, _, rfl⟩ := Option.map_eq_some_iff.mp h; exact ⟨_, rfl⟩)
theorem se_cmp {o : Cm} (ha : SE G F k a) (hb : SE G F k b) : SE G F k (.cmp o a b) := by
  have ev : ∀ {ρ st r st'}, evE F (.cmp o a b) ρ st = some (r, st') → ∃ x st1 y z, evE F a ρ st = some (x, st1) ∧ evE F b ρ st1 = some (y, st') ∧ cmp2 o x.d y.d = some z ∧ r = .v z := fun {ρ st r st'} he => by
    simp only [evE] at he
    split at he
    · rename_i x st1 e1
      split at he
      · rename_i y st2 e2
        split at he
        · rename_i z e3
          cases he
          exact ⟨x, st1, y, z, e1, e2, e3, rfl⟩
        · cases he
      · cases he
    · cases he
  have ks : ∀ {X : Cx} {e : Expr} {w : Bool}, Cd G F k X → chkE G X.env.scope w (.cmp o a b) e = true → PE X e (tS X.K F (.cmp o a b)) := fun {X e w} c h => by
    obtain ⟨l, r, p, rfl, h1, h2, h3⟩ := inv_cmp h
    refine PEimp (pe_cmpR (cm_ok c.u o) (ha.w c h1) (hb.w c h2) h3) fun σ H Q ⟨cs, Av, ρ, st, r, st', ok, cl, en, he, q⟩ => ?_
    obtain ⟨x, st1, y, z, e1, e2, e3, rfl⟩ := ev he
    refine ⟨cs, Av, ρ, st, x, st1, ok, cl, en, e1, fun v H1 x1 c1 r1 => ?_⟩
    have ok1 := ok.ext x1 c1
    refine ⟨cs, Av, ρ, st1, y, st', ok1, c1, en.ext ok x1, e2, fun u H2 x2 c2 r2 => ?_⟩
    have ok2 := ok1.ext x2 c2
    exact ⟨cs, Av, x.d, y.d, z, ok2, r1.ext ok1 x2, r2, e3, fun v r3 => q v H2 (x1.trans x2) c2 (.vv r3)⟩
  refine ⟨fun c h => ks c h, fun c h => tS_w (ks c h), fun {X e w} c h => ?_, fun c h hb => ?_⟩
  · obtain ⟨l, r, p, rfl, h1, h2, h3⟩ := inv_cmp h
    refine PTimp (pt_cmpR (cm_ok c.u o) (ha.w c h1) (hb.w c h2) h3) fun σ H Q ⟨cs, Av, ρ, st, r, st', bb, ok, cl, en, he, ht, q⟩ => ?_
    obtain ⟨x, st1, y, z, e1, e2, e3, rfl⟩ := ev he
    refine ⟨cs, Av, ρ, st, x, st1, ok, cl, en, e1, fun v H1 x1 c1 r1 => ?_⟩
    have ok1 := ok.ext x1 c1
    refine ⟨cs, Av, ρ, st1, y, st', ok1, c1, en.ext ok x1, e2, fun u H2 x2 c2 r2 => ?_⟩
    have ok2 := ok1.ext x2 c2
    refine ⟨cs, Av, x.d, y.d, z, ok2, r1.ext ok1 x2, r2, e3, fun v r3 => ?_⟩
    obtain ⟨b', rfl⟩ := cmp2_bool e3
    cases r3
    cases ht
    exact ⟨_, rfl, q H2 (x1.trans x2) c2⟩
  · obtain ⟨l, r, p, rfl, _⟩ := inv_cmp h; cases hb
theorem se_chain {o o' : Cm} (ha : SE G F k a) (hb : SE G F k b) (hc : SE G F k c) : SE G F k (.chain o o' a b c) := by
  have ks : ∀ {X : Cx} {l r r' : Expr} {H : Hp} {σ : L2.St} {Q : VK}, Cd G F k X → tS X.K F (.chain o o' a b c) σ H (fun v H' => ∃ b, v = .bl b ∧ Q v H') → tChain (rCm X.K o) (rCm X.K o') (tW X.K F a) (tW X.K F b) (tW X.K F c) σ H Q := fun {X l r r' H σ Q} cd ⟨cs, Av, ρ, st, r, st', ok, cl, en, he, q⟩ => by
    simp only [evE] at he
    split at he
    · rename_i x st1 e1
      split at he
      · rename_i y st2 e2
        refine ⟨cs, Av, ρ, st, x, st1, ok, cl, en, e1, fun v H1 x1 c1 r1 => ?_⟩
        have ok1 := ok.ext x1 c1
        refine ⟨cs, Av, ρ, st1, y, st2, ok1, c1, en.ext ok x1, e2, fun u H2 x2 c2 r2 => ?_⟩
        have ok2 := ok1.ext x2 c2
        split at he
        · rename_i e3
          refine ⟨cs, Av, x.d, y.d, _, ok2, r1.ext ok1 x2, r2, e3, fun z r3 => ?_⟩
          cases r3
          refine ⟨true, rfl, ?_⟩
          split at he
          · rename_i z st3 e4
            split at he
            · rename_i r0 e5
              cases he
              refine ⟨cs, Av, ρ, st2, z, _, ok2, c2, (en.ext ok x1).ext ok1 x2, e4, fun v3 H3 x3 c3 r4 => ?_⟩
              have ok3 := ok2.ext x3 c3
              refine ⟨cs, Av, y.d, z.d, r0, ok3, r2.ext ok2 x3, r4, e5, fun v r5 => ?_⟩
              obtain ⟨bb, hb', hq⟩ := q v H3 ((x1.trans x2).trans x3) c3 (.vv r5)
              exact hq
            · cases he
          · cases he
        · rename_i e3
          cases he
          refine ⟨cs, Av, x.d, y.d, _, ok2, r1.ext ok1 x2, r2, e3, fun z r3 => ?_⟩
          cases r3
          refine ⟨false, rfl, ?_⟩
          obtain ⟨bb, hb', hq⟩ := q (.bl false) H2 (x1.trans x2) c2 (.vv (.bl false))
          exact hq
        · cases he
      · cases he
    · cases he
  have bo : ∀ {ρ st r st'}, evE F (.chain o o' a b c) ρ st = some (r, st') → ∃ b, r = .v (.bool b) := fun {ρ st r st'} he => by
    simp only [evE] at he
    repeat' (split at he)
    all_goals first
      | (cases he; done)
      | (cases he; exact ⟨_, rfl⟩)
      | (simp only [Option.some.injEq, Prod.mk.injEq] at he; obtain ⟨rfl, rfl⟩ := he; obtain ⟨b, rfl⟩ := cmp2_bool ‹cmp2 o' _ _ = some _›; exact ⟨_, rfl⟩)
  have ks2 : ∀ {X : Cx} {e : Expr} {w : Bool}, Cd G F k X → chkE G X.env.scope w (.chain o o' a b c) e = true → PE X e (tS X.K F (.chain o o' a b c)) := fun {X e w} cd h => by
    obtain ⟨l, r, r', p, rfl, h1, h2, h3, h4⟩ := inv_chain h
    refine PEimp (pe_chain (cm_ok cd.u o) (cm_ok cd.u o') (ha.w cd h1) (hb.w cd h2) (hc.w cd h3) h4) fun σ H Q ⟨cs, Av, ρ, st, r, st', ok, cl, en, he, q⟩ => ks (l := l) (r := l) (r' := l) cd ?_
    obtain ⟨bb, rfl⟩ := bo he
    refine ⟨cs, Av, ρ, st, _, st', ok, cl, en, he, fun v H' x1 c1 r1 => ?_⟩
    have r1' := r1.1
    cases r1'
    exact ⟨bb, rfl, q _ H' x1 c1 r1⟩
  refine ⟨fun c h => ks2 c h, fun c h => tS_w (ks2 c h), fun {X e w} cd h => ?_, fun c h hb => ?_⟩
  · obtain ⟨l, r, r', p, rfl, h1, h2, h3, h4⟩ := inv_chain h
    refine PTimp (pt_chain (cm_ok cd.u o) (cm_ok cd.u o') (ha.w cd h1) (hb.w cd h2) (hc.w cd h3) h4) fun σ H Q ⟨cs, Av, ρ, st, r, st', bb, ok, cl, en, he, ht, q⟩ => ks (l := l) (r := l) (r' := l) cd ?_
    obtain ⟨b', rfl⟩ := bo he
    cases ht
    refine ⟨cs, Av, ρ, st, _, st', ok, cl, en, he, fun v H' x1 c1 r1 => ?_⟩
    cases r1.1
    exact ⟨_, rfl, _, rfl, q H' x1 c1⟩
  · obtain ⟨l, r, r', p, rfl, _⟩ := inv_chain h; cases hb

/-! ### and, or, not, if -/
theorem se_one (ha : SE G F k a) : SE G F k (.one a) := by
  have ev : ∀ ρ st, evE F (.one a) ρ st = evE F a ρ st := fun ρ st => by simp only [evE]
  refine ⟨fun {X e} c h => ?_, fun {X e w} c h => ?_, fun {X e w} c h => ?_, fun {X e w} c h _ => ?_⟩
  · obtain ⟨q, x, p, rfl, h1⟩ := inv_one h
    exact PEimp (pe_one (ha.s c h1)) fun σ H Q ⟨cs, Av, ρ, st, r, st', ok, cl, en, he, q⟩ => ⟨cs, Av, ρ, st, r, st', ok, cl, en, by rw [← ev]; exact he, q⟩
  · obtain ⟨q, x, p, rfl, h1⟩ := inv_one h
    exact PEimp (pe_one (ha.w c h1)) fun σ H Q ⟨cs, Av, ρ, st, r, st', ok, cl, en, he, q⟩ => ⟨cs, Av, ρ, st, r, st', ok, cl, en, by rw [← ev]; exact he, q⟩
  · obtain ⟨q, x, p, rfl, h1⟩ := inv_one h
    have z : PT X (.BoolOp q [x] p) (tT X.K F a) := by
      cases q
      · exact (pw_and1 (ha.t c h1)).pt
      · exact (pw_or1 (ha.t c h1)).pt
    exact PTimp z fun σ H Q ⟨cs, Av, ρ, st, r, st', b, ok, cl, en, he, q⟩ => ⟨cs, Av, ρ, st, r, st', b, ok, cl, en, by rw [← ev]; exact he, q⟩
  · obtain ⟨q, x, p, rfl, h1⟩ := inv_one h
    have z : PW X (.BoolOp q [x] p) (tT X.K F a) := by
      cases q
      · exact pw_and1 (ha.t c h1)
      · exact pw_or1 (ha.t c h1)
    exact ⟨fun wh pins s σ H Q I ⟨cs, Av, ρ, st, r, st', b, ok, cl, en, he, q⟩ => z.run wh pins s σ H Q I ⟨cs, Av, ρ, st, r, st', b, ok, cl, en, by rw [← ev]; exact he, q⟩⟩
theorem ev_and {ρ : Rho} {st st' : Sto} {r : RV} (he : evE F (.and a b) ρ st = some (r, st')) : ∃ x st1 t, evE F a ρ st = some (x, st1) ∧ truth x.d = some t ∧ ((t = true ∧ evE F b ρ st1 = some (r, st')) ∨ (t = false ∧ r = x ∧ st' = st1)) := by
  simp only [evE] at he
  split at he
  · rename_i x st1 e1
    refine ⟨x, st1, ?_⟩
    split at he
    · rename_i e2; exact ⟨true, e1, e2, .inl ⟨rfl, he⟩⟩
    · rename_i e2; cases he; exact ⟨false, e1, e2, .inr ⟨rfl, rfl, rfl⟩⟩
    · cases he
  · cases he
theorem ev_or {ρ : Rho} {st st' : Sto} {r : RV} (he : evE F (.or a b) ρ st = some (r, st')) : ∃ x st1 t, evE F a ρ st = some (x, st1) ∧ truth x.d = some t ∧ ((t = false ∧ evE F b ρ st1 = some (r, st')) ∨ (t = true ∧ r = x ∧ st' = st1)) := by
  simp only [evE] at he
  split at he
  · rename_i x st1 e1
    refine ⟨x, st1, ?_⟩
    split at he
    · rename_i e2; cases he; exact ⟨true, e1, e2, .inr ⟨rfl, rfl, rfl⟩⟩
    · rename_i e2; exact ⟨false, e1, e2, .inl ⟨rfl, he⟩⟩
    · cases he
  · cases he
theorem se_and (ha : SE G F k a) (hb : SE G F k b) : SE G F k (.and a b) := by
  have ks : ∀ {X : Cx} {e : Expr} {w : Bool}, Cd G F k X → chkE G X.env.scope w (.and a b) e = true → PE X e (tS X.K F (.and a b)) := fun {X e w} c h => by
    obtain ⟨x, y, r, p, rfl, h1, h2⟩ := inv_and h
    refine PEimp (pe_andT (ha.s c h1) (hb.s c h2)) fun σ H Q ⟨cs, Av, ρ, st, r, st', ok, cl, en, he, q⟩ => ?_
    obtain ⟨x, st1, t, e1, e2, e3⟩ := ev_and he
    refine ⟨cs, Av, ρ, st, x, st1, ok, cl, en, e1, fun v H1 x1 c1 r1 => ⟨t, tru_of (r1.1.w ok) e2, ?_⟩⟩
    have ok1 := ok.ext x1 c1
    rcases e3 with ⟨rfl, e3⟩ | ⟨rfl, rfl, rfl⟩
    · show (if true = true then _ else _)
      rw [if_pos rfl]
      exact ⟨cs, Av, ρ, st1, r, st', ok1, c1, en.ext ok x1, e3, fun v H2 x2 c2 r2 => q v H2 (x1.trans x2) c2 (r2.old x1 ok1)⟩
    · show (if false = true then _ else _)
      rw [if_neg (by decide)]
      exact q v H1 x1 c1 r1
  have kt : ∀ {X : Cx} {e : Expr} {w : Bool}, Cd G F k X → chkE G X.env.scope w (.and a b) e = true → PW X e (tT X.K F (.and a b)) := fun {X e w} c h => by
    obtain ⟨x, y, r, p, rfl, h1, h2⟩ := inv_and h
    refine ⟨fun wh pins s σ H Q I ⟨cs, Av, ρ, st, r, st', bb, ok, cl, en, he, ht, q⟩ => (pw_and (ha.t c h1) (hb.b c h2 rfl)).run wh pins s σ H Q I ?_⟩
    obtain ⟨x, st1, t, e1, e2, e3⟩ := ev_and he
    refine ⟨cs, Av, ρ, st, x, st1, t, ok, cl, en, e1, e2, fun H1 x1 c1 => ?_⟩
    have ok1 := ok.ext x1 c1
    rcases e3 with ⟨rfl, e3⟩ | ⟨rfl, rfl, rfl⟩
    · show (if true = true then _ else _)
      rw [if_pos rfl]
      exact ⟨cs, Av, ρ, st1, r, st', bb, ok1, c1, en.ext ok x1, e3, ht, fun H2 x2 c2 => q H2 (x1.trans x2) c2⟩
    · show (if false = true then _ else _)
      rw [if_neg (by decide)]
      rw [ht] at e2
      cases e2
      exact q H1 x1 c1
  exact ⟨fun c h => ks c h, fun c h => tS_w (ks c h), fun c h => (kt c h).pt, fun c h _ => kt c h⟩
theorem se_or (ha : SE G F k a) (hb : SE G F k b) : SE G F k (.or a b) := by
  have ks : ∀ {X : Cx} {e : Expr} {w : Bool}, Cd G F k X → chkE G X.env.scope w (.or a b) e = true → PE X e (tS X.K F (.or a b)) := fun {X e w} c h => by
    obtain ⟨x, y, r, p, rfl, h1, h2⟩ := inv_or h
    refine PEimp (pe_orT (ha.s c h1) (hb.s c h2)) fun σ H Q ⟨cs, Av, ρ, st, r, st', ok, cl, en, he, q⟩ => ?_
    obtain ⟨x, st1, t, e1, e2, e3⟩ := ev_or he
    refine ⟨cs, Av, ρ, st, x, st1, ok, cl, en, e1, fun v H1 x1 c1 r1 => ⟨t, tru_of (r1.1.w ok) e2, ?_⟩⟩
    have ok1 := ok.ext x1 c1
    rcases e3 with ⟨rfl, e3⟩ | ⟨rfl, rfl, rfl⟩
    · show (if false = true then _ else _)
      rw [if_neg (by decide)]
      exact ⟨cs, Av, ρ, st1, r, st', ok1, c1, en.ext ok x1, e3, fun v H2 x2 c2 r2 => q v H2 (x1.trans x2) c2 (r2.old x1 ok1)⟩
    · show (if true = true then _ else _)
      rw [if_pos rfl]
      exact q v H1 x1 c1 r1
  have kt : ∀ {X : Cx} {e : Expr} {w : Bool}, Cd G F k X → chkE G X.env.scope w (.or a b) e = true → PW X e (tT X.K F (.or a b)) := fun {X e w} c h => by
    obtain ⟨x, y, r, p, rfl, h1, h2⟩ := inv_or h
    refine ⟨fun wh pins s σ H Q I ⟨cs, Av, ρ, st, r, st', bb, ok, cl, en, he, ht, q⟩ => (pw_or (ha.t c h1) (hb.b c h2 rfl)).run wh pins s σ H Q I ?_⟩
    obtain ⟨x, st1, t, e1, e2, e3⟩ := ev_or he
    refine ⟨cs, Av, ρ, st, x, st1, t, ok, cl, en, e1, e2, fun H1 x1 c1 => ?_⟩
    have ok1 := ok.ext x1 c1
    rcases e3 with ⟨rfl, e3⟩ | ⟨rfl, rfl, rfl⟩
    · show (if false = true then _ else _)
      rw [if_neg (by decide)]
      exact ⟨cs, Av, ρ, st1, r, st', bb, ok1, c1, en.ext ok x1, e3, ht, fun H2 x2 c2 => q H2 (x1.trans x2) c2⟩
    · show (if true = true then _ else _)
      rw [if_pos rfl]
      rw [ht] at e2
      cases e2
      exact q H1 x1 c1
  exact ⟨fun c h => ks c h, fun c h => tS_w (ks c h), fun c h => (kt c h).pt, fun c h _ => kt c h⟩
theorem se_not (ha : SE G F k a) : SE G F k (.not a) := by
  have ev : ∀ {ρ st r st'}, evE F (.not a) ρ st = some (r, st') → ∃ x t, evE F a ρ st = some (x, st') ∧ truth x.d = some t ∧ r = .v (.bool (!t)) := fun {ρ st r st'} he => by
    simp only [evE] at he
    split at he
    · rename_i x st1 e1
      split at he
      · rename_i t e2; cases he; exact ⟨x, t, e1, e2, rfl⟩
      · cases he
    · cases he
  have ks : ∀ {X : Cx} {e : Expr} {w : Bool}, Cd G F k X → chkE G X.env.scope w (.not a) e = true → PE X e (tS X.K F (.not a)) := fun {X e w} c h => by
    obtain ⟨l, p, rfl, h1⟩ := inv_not h
    refine PEimp (pe_notT (ha.w c h1)) fun σ H Q ⟨cs, Av, ρ, st, r, st', ok, cl, en, he, q⟩ => ?_
    obtain ⟨x, t, e1, e2, rfl⟩ := ev he
    exact ⟨cs, Av, ρ, st, x, st', ok, cl, en, e1, fun v H1 x1 c1 r1 => ⟨t, tru_of r1 e2, q _ H1 x1 c1 (.vv (.bl _))⟩⟩
  refine ⟨fun c h => ks c h, fun c h => tS_w (ks c h), fun {X e w} c h => ?_, fun c h hb => ?_⟩
  · obtain ⟨l, p, rfl, h1⟩ := inv_not h
    refine PTimp (pt_not (ha.t c h1)) fun σ H Q ⟨cs, Av, ρ, st, r, st', bb, ok, cl, en, he, ht, q⟩ => ?_
    obtain ⟨x, t, e1, e2, rfl⟩ := ev he
    cases ht
    exact ⟨cs, Av, ρ, st, x, st', t, ok, cl, en, e1, e2, q⟩
  · obtain ⟨l, p, rfl, h1⟩ := inv_not h; cases hb
theorem pt_ifExp {c a b : Expr} {tc ta tb : TT} {pos : Pos} (hc : PT X c tc) (ha : PT X a ta) (hb : PT X b tb) : PT X (.IfExp c a b pos) (fun σ H Q => tc σ H fun k H1 => if k = true then ta σ H1 Q else tb σ H1 Q) := by
  refine ⟨fun pins s σ H Q I h => ?_⟩
  show wpAny _ _ (do if ← isTrue c X.env (eval c X.env) then isTrue a X.env (eval a X.env) else isTrue b X.env (eval b X.env)) _ _ _
  refine wpAny_bind (thn (hc.run pins s σ H _ I h) fun d s1 ⟨H1, I1, q1⟩ => ?_)
  cases d with
  | true => exact ha.run pins s1 σ H1 Q I1 q1
  | false => exact hb.run pins s1 σ H1 Q I1 q1
theorem se_ite (hc : SE G F k c) (ha : SE G F k a) (hb : SE G F k b) : SE G F k (.ite c a b) := by
  have ev : ∀ {ρ st r st'}, evE F (.ite c a b) ρ st = some (r, st') → ∃ x st1 t, evE F c ρ st = some (x, st1) ∧ truth x.d = some t ∧ ((t = true ∧ evE F a ρ st1 = some (r, st')) ∨ (t = false ∧ evE F b ρ st1 = some (r, st'))) := fun {ρ st r st'} he => by
    simp only [evE] at he
    split at he
    · rename_i x st1 e1
      refine ⟨x, st1, ?_⟩
      split at he
      · rename_i e2; exact ⟨true, e1, e2, .inl ⟨rfl, he⟩⟩
      · rename_i e2; exact ⟨false, e1, e2, .inr ⟨rfl, he⟩⟩
      · cases he
    · cases he
  have ks : ∀ {X : Cx} {e : Expr} {w : Bool}, Cd G F k X → chkE G X.env.scope w (.ite c a b) e = true → PE X e (tS X.K F (.ite c a b)) := fun {X e w} cd h => by
    obtain ⟨x, y, z, p, rfl, h1, h2, h3⟩ := inv_ite h
    refine PEimp (pe_ifExp (hc.t cd h1) (ha.s cd h2) (hb.s cd h3)) fun σ H Q ⟨cs, Av, ρ, st, r, st', ok, cl, en, he, q⟩ => ?_
    obtain ⟨x, st1, t, e1, e2, e3⟩ := ev he
    refine ⟨cs, Av, ρ, st, x, st1, t, ok, cl, en, e1, e2, fun H1 x1 c1 => ?_⟩
    have ok1 := ok.ext x1 c1
    rcases e3 with ⟨rfl, e3⟩ | ⟨rfl, e3⟩
    · show (if true = true then _ else _)
      rw [if_pos rfl]
      exact ⟨cs, Av, ρ, st1, r, st', ok1, c1, en.ext ok x1, e3, fun v H2 x2 c2 r2 => q v H2 (x1.trans x2) c2 (r2.old x1 ok1)⟩
    · show (if false = true then _ else _)
      rw [if_neg (by decide)]
      exact ⟨cs, Av, ρ, st1, r, st', ok1, c1, en.ext ok x1, e3, fun v H2 x2 c2 r2 => q v H2 (x1.trans x2) c2 (r2.old x1 ok1)⟩
  refine ⟨fun c h => ks c h, fun c h => tS_w (ks c h), fun {X e w} cd h => ?_, fun c h hb => ?_⟩
  · obtain ⟨x, y, z, p, rfl, h1, h2, h3⟩ := inv_ite h
    refine PTimp (pt_ifExp (hc.t cd h1) (ha.t cd h2) (hb.t cd h3)) fun σ H Q ⟨cs, Av, ρ, st, r, st', bb, ok, cl, en, he, ht, q⟩ => ?_
    obtain ⟨x, st1, t, e1, e2, e3⟩ := ev he
    refine ⟨cs, Av, ρ, st, x, st1, t, ok, cl, en, e1, e2, fun H1 x1 c1 => ?_⟩
    have ok1 := ok.ext x1 c1
    rcases e3 with ⟨rfl, e3⟩ | ⟨rfl, e3⟩
    · show (if true = true then _ else _)
      rw [if_pos rfl]
      exact ⟨cs, Av, ρ, st1, r, st', bb, ok1, c1, en.ext ok x1, e3, ht, fun H2 x2 c2 => q H2 (x1.trans x2) c2⟩
    · show (if false = true then _ else _)
      rw [if_neg (by decide)]
      exact ⟨cs, Av, ρ, st1, r, st', bb, ok1, c1, en.ext ok x1, e3, ht, fun H2 x2 c2 => q H2 (x1.trans x2) c2⟩
  · obtain ⟨x, y, z, p, rfl, _⟩ := inv_ite h; cases hb
end
end Ev

set_option Elab.async false
set_option linter.all false
set_option maxRecDepth 100000
set_option maxHeartbeats 4000000
/-! Expressions: subscripts, slices, calls, argument lists. -/
namespace Ev
open PySem PySem.Spec PyProof.Rows L2

section
variable {G : Ga} {sc : Scope} {e : Expr} {w : Bool}
theorem inv_callk {f es perm} (h : chkE G sc w (.callk f es perm) e = true) : ∃ x p kw kws p', e = .Call (.Name x p) [] (kw :: kws) p' ∧ fnIs G f x = true ∧ isGl sc x = true ∧ okN x = true ∧ kbIs G f (kw :: kws) perm = true ∧ chkKs G sc es (kw :: kws) = true := by
  cases e
  case Call g as ks p' =>
    cases g
    case Name x p =>
      match as, ks, h with
      | [], kw :: kws, h =>
        have h' : (fnIs G f x && isGl sc x && okN x && kbIs G f (kw :: kws) perm && chkKs G sc es (kw :: kws)) = true := h
        simp only [Bool.and_eq_true] at h'
        exact ⟨x, p, kw, kws, p', rfl, h'.1.1.1.1, h'.1.1.1.2, h'.1.1.2, h'.1.2, h'.2⟩
      | [], [], h => exact ff h
      | _ :: _, _, h => exact ff h
    all_goals exact ff h
  all_goals exact ff h
theorem inv_lrng {es} (h : chkE G sc w (.lrng es) e = true) : ∃ p p2 l p3 p4, e = .Call (.Name "list" p) [.Call (.Name "range" p2) l [] p3] [] p4 ∧ isGl sc "list" = true ∧ isGl sc "range" = true ∧ chkAs G sc false es l = true ∧ lenOk l = true := by
  cases e
  case Call g as ks p' =>
    cases g
    case Name x p =>
      match as, ks, h with
      | [y], [], h =>
        cases y
        case Call g2 l ks2 p3 =>
          cases g2
          case Name y p2 =>
            match ks2, h with
            | [], h =>
              have h' : (x == ("list" : Str) && isGl sc x && y == ("range" : Str) && isGl sc y && chkAs G sc false es l && lenOk l) = true := h
              simp only [Bool.and_eq_true] at h'
              obtain ⟨⟨⟨⟨⟨h1, h2⟩, h3⟩, h4⟩, h5⟩, h6⟩ := h'
              obtain rfl := eq_of_beq h1
              obtain rfl := eq_of_beq h3
              exact ⟨p, p2, l, p3, p', rfl, h2, h4, h5, h6⟩
            | _ :: _, h => exact ff h
          all_goals exact ff h
        all_goals exact ff h
      | [], _, h => exact ff h
      | _ :: _ :: _, _, h => simp [chkE] at h
      | [_], _ :: _, h => simp [chkE] at h
    all_goals exact ff h
  all_goals exact ff h
theorem inv_trng {es} (h : chkE G sc w (.trng es) e = true) : ∃ p p2 l p3 p4, e = .Call (.Name "tuple" p) [.Call (.Name "range" p2) l [] p3] [] p4 ∧ isGl sc "tuple" = true ∧ isGl sc "range" = true ∧ chkAs G sc false es l = true ∧ lenOk l = true := by
  cases e
  case Call g as ks p' =>
    cases g
    case Name x p =>
      match as, ks, h with
      | [y], [], h =>
        cases y
        case Call g2 l ks2 p3 =>
          cases g2
          case Name y p2 =>
            match ks2, h with
            | [], h =>
              have h' : (x == ("tuple" : Str) && isGl sc x && y == ("range" : Str) && isGl sc y && chkAs G sc false es l && lenOk l) = true := h
              simp only [Bool.and_eq_true] at h'
              obtain ⟨⟨⟨⟨⟨h1, h2⟩, h3⟩, h4⟩, h5⟩, h6⟩ := h'
              obtain rfl := eq_of_beq h1
              obtain rfl := eq_of_beq h3
              exact ⟨p, p2, l, p3, p', rfl, h2, h4, h5, h6⟩
            | _ :: _, h => exact ff h
          all_goals exact ff h
        all_goals exact ff h
      | [], _, h => exact ff h
      | _ :: _ :: _, _, h => simp [chkE] at h
      | [_], _ :: _, h => simp [chkE] at h
    all_goals exact ff h
  all_goals exact ff h
end
theorem plainIx_of {b : Expr} (h : plainSub b = true) : PlainIx b := fun o i => by
  cases b <;> first | rfl | exact ff h

section
variable {G : Ga} {F : FT} {k : Nat} {X : Cx} {e : Expr} {ce a b c : CE} {w : Bool}
theorem atI_rel {K : PySem.W.Frag} {cs : List Addr} {Av : Addr → Prop} {H : Hp} {vs : List V} {ds : List D} {i : Int} {z : D} (rs : Rps K cs Av H vs ds) (h : atI ds i = some z) : ∃ v, atI vs i = some v ∧ Rp K cs Av H v z := by
  unfold atI at h ⊢
  rw [rs.length]
  cases q : ixN ds.length i with
  | none => rw [q] at h; cases h
  | some j => rw [q] at h; exact rs.get h
theorem cellOf_eq {d : D} {n : Nat} (h : cellOf d = some n) : ∃ m : Int, d = .dict [(.none, .int m)] ∧ m.toNat = n := by
  unfold cellOf at h
  split at h
  · rename_i m; cases h; exact ⟨m, rfl, rfl⟩
  · cases h
/-- d[x], x a text -/
theorem ix_dct (hu : X.A.units + 1 < cLine) : IxR X (fun x y H Q => ∃ a v, x = .ref a ∧ DGet H a y (some v) ∧ Q v H) := by
  intro value slice pins s σ H x y v u Q I rx ry h hs
  obtain ⟨a, r, rfl, g, q⟩ := h
  obtain rfl : v = Value.ref a := rx
  exact tail_any (dict_typeIs I g) PySem.F.slot_dict_getitem.lookup (d_getItem hu I g ry fun w' s3 I3 rw' => ⟨r, H, I3, rw', q⟩) hs
theorem kOf_kD (k : L2.Key) : kOf (kD k) = some k := by cases k <;> rfl
theorem dAt_rel {K : PySem.W.Frag} {cs : List Addr} {Av : Addr → Prop} {H : Hp} {x : L2.Key} : ∀ {ks : List L2.Key} {vs : List V} {ds : List D}, ks.length = ds.length → Rps K cs Av H vs ds →
    (dAt ((ks.zip ds).map fun p => (kD p.1, p.2)) x = none ∧ valV (ks.zip vs) x = none) ∨ ∃ d v, dAt ((ks.zip ds).map fun p => (kD p.1, p.2)) x = some d ∧ valV (ks.zip vs) x = some v ∧ Rp K cs Av H v d := by
  intro ks
  induction ks with
  | nil => intro vs ds _ _; exact .inl ⟨rfl, rfl⟩
  | cons k ks ih =>
    intro vs ds hl r
    cases r with
    | nil => simp at hl
    | @cons v vs e ds r t =>
      simp only [List.length_cons, Nat.add_right_cancel_iff] at hl
      simp only [List.zip_cons_cons, List.map_cons, dAt, kOf_kD]
      by_cases hk : k = x
      · exact .inr ⟨e, v, by rw [if_pos hk], by simp [valV, hk], r⟩
      · have e1 : valV ((k, v) :: ks.zip vs) x = valV (ks.zip vs) x := by
          unfold valV
          rw [List.find?_cons_of_neg (by simp [hk])]
        rw [if_neg hk, e1]
        exact ih hl t
theorem dct_ne {n : Int} {ks : List L2.Key} {ds : List D} {p : Prop} (h : [(PyData.none, PyData.int n)] = (ks.zip ds).map (fun p => (kD p.1, p.2))) : p := by
  cases e : ks.zip ds with
  | nil => rw [e] at h; cases h
  | cons q r =>
    rw [e, List.map_cons] at h
    injection h with h1 h2
    injection h1 with h3 h4
    cases hq : q.1 with
    | inl i => rw [hq] at h3; cases h3
    | inr x => rw [hq] at h3; cases h3
theorem se_sub {i : CE} (ha : SE G F k a) (hi : SE G F k i) : SE G F k (.sub a i) := SE.of (fun {X e w} c h => by
  obtain ⟨x, y, p, rfl, h1, h2, h3⟩ := inv_sub h
  refine PEimp (pe_ix (ix_list.or (ix_tup.or (ix_dct (by have := c.u; omega)))) (ha.w c h1) (hi.s c h2) (plainIx_of h3)) fun σ H Q ⟨cs, Av, ρ, st, r, st', ok, cl, en, he, q⟩ => ?_
  simp only [evE] at he
  split at he
  · rename_i x st1 e1
    split at he
    · rename_i y st2 e2
      split at he
      · rename_i z e3
        simp only [Option.some.injEq, Prod.mk.injEq] at he
        obtain ⟨rfl, rfl⟩ := he
        refine ⟨cs, Av, ρ, st, x, st1, ok, cl, en, e1, fun v H1 x1 c1 r1 => ?_⟩
        have ok1 := ok.ext x1 c1
        refine ⟨cs, Av, ρ, st1, y, _, ok1, c1, en.ext ok x1, e2, fun u H2 x2 c2 r2 => ?_⟩
        have ok2 := ok1.ext x2 c2
        have r1' := r1.ext ok1 x2
        have x12 := x1.trans x2
        have r2' := r2.1.w ok1
        generalize hxd : x.d = xd at r1' e3
        generalize hyd : y.d = yd at r2' e3
        cases hcell : cellOf xd with
        | none =>
          have hl : look st2 xd = xd := by unfold look; rw [hcell]
          rw [hl] at e3
          unfold sub2 at e3
          split at e3
          · obtain ⟨a, vs, rfl, hs, rs⟩ := r1'.tuple
            obtain rfl := r2'.int
            obtain ⟨v, hv, rv⟩ := atI_rel rs e3
            exact .inr (.inl ⟨a, vs, _, v, rfl, rfl, hs.t, hv, q v H2 x12 c2 (.vv rv)⟩)
          · obtain ⟨a, vs, rfl, hs, rs⟩ := r1'.list
            obtain rfl := r2'.int
            obtain ⟨v, hv, rv⟩ := atI_rel rs e3
            exact .inl ⟨a, vs, _, v, rfl, rfl, hs, hv, q v H2 x12 c2 (.vv rv)⟩
          · obtain rfl := r2'.str
            rcases r1' with r1' | ⟨_, _, _, _, e, _⟩
            · cases r1' with
              | cell hn => simp [dAt, kOf] at e3
              | dct0 hH => simp [dAt] at e3
              | @dct a ks vs ds kd hH h0 hle rs hk =>
                subst hk
                rcases dAt_rel (x := .inr _) hle rs with ⟨z1, _⟩ | ⟨d', v, z1, z2, rv⟩
                · rw [z1] at e3; cases e3
                · rw [z1] at e3
                  cases e3
                  exact .inr (.inr ⟨a, v, rfl, .inl ⟨_, _, .inl hH, rfl, z2.symm⟩, q v H2 x12 c2 (.vv rv)⟩)
            · cases e
          · obtain rfl := r2'.int
            rcases r1' with r1' | ⟨_, _, _, _, e, _⟩
            · cases r1' with
              | cell hn => simp [dAt, kOf] at e3
              | dct0 hH => simp [dAt] at e3
              | @dct a ks vs ds kd hH h0 hle rs hk =>
                subst hk
                rcases dAt_rel (x := .inl _) hle rs with ⟨z1, _⟩ | ⟨d', v, z1, z2, rv⟩
                · rw [z1] at e3; cases e3
                · rw [z1] at e3
                  cases e3
                  exact .inr (.inr ⟨a, v, rfl, .inl ⟨_, _, .inl hH, rfl, z2.symm⟩, q v H2 x12 c2 (.vv rv)⟩)
            · cases e
          · cases e3
        | some n =>
          obtain ⟨m, rfl, rfl⟩ := cellOf_eq hcell
          have hl : look st2 (.dict [(.none, .int m)]) = match st2[m.toNat]? with | some ds => .list ds | none => .dict [(.none, .int m)] := rfl
          rw [hl] at e3
          split at e3
          · rename_i ds hds
            have hr : ∃ a, v = .ref a ∧ cs[m.toNat]? = some a := by
              rcases r1' with r1' | ⟨_, _, _, _, e, _⟩
              · cases r1' with
                | @cell a n' hn => exact ⟨a, rfl, by simpa using hn⟩
                | dct _ _ _ _ hk => exact dct_ne hk
              · cases e
            obtain ⟨a, rfl, hn⟩ := hr
            obtain ⟨vs, hvs, rs⟩ := c2.at_ _ a ds hn hds
            cases yd with
            | int j =>
              obtain rfl := r2'.int
              obtain ⟨v, hv, rv⟩ := atI_rel rs e3
              exact .inl ⟨a, vs, _, v, rfl, rfl, SqL.of hvs, hv, q v H2 x12 c2 (.vv rv)⟩
            | _ => simp [sub2] at e3
          · cases yd <;> simp [sub2, dAt, kOf] at e3
      · cases he
    · cases he
  · cases he) (fun h => by obtain ⟨x, y, p, rfl, _⟩ := inv_sub h; exact ⟨rfl, rfl⟩)
theorem se_rev (ha : SE G F k a) : SE G F k (.rev a) := SE.of (fun {X e w} c h => by
  obtain ⟨x, kk, p1, p2, p3, p, rfl, h1⟩ := inv_rev h
  refine PEimp (pe_rv (ha.w c h1)) fun σ H Q ⟨cs, Av, ρ, st, r, st', ok, cl, en, he, q⟩ => ?_
  simp only [evE] at he
  split at he
  · rename_i x st1 e1
    split at he
    · rename_i z e3
      simp only [Option.some.injEq, Prod.mk.injEq] at he
      obtain ⟨rfl, rfl⟩ := he
      refine ⟨cs, Av, ρ, st, x, _, ok, cl, en, e1, fun v H1 x1 c1 r1 => ?_⟩
      have ok1 := ok.ext x1 c1
      generalize hxd : x.d = xd at r1 e3
      unfold rev1 at e3
      split at e3
      · cases e3
        obtain ⟨a, vs, rfl, hs, rs⟩ := r1.tuple
        refine ⟨a, vs, rfl, .inl ⟨hs.t, fun p o ho hp => ?_⟩⟩
        have z : Ext [] H1 (upd H1 p (.frz o (.tup vs.reverse))) := Ext.upd hp
        exact q _ _ (x1.trans z.all) (c1.ext ok1 z) (.vv (.tup (SqD.new ho) (rs.reverse.ext ok1 z.all)))
      · cases e3
        obtain ⟨a, vs, rfl, hs, rs⟩ := r1.list
        refine ⟨a, vs, rfl, .inr ⟨hs, fun p hp => ?_⟩⟩
        have z : Ext [] H1 (upd H1 p (.lst vs.reverse)) := Ext.upd hp
        exact q _ _ (x1.trans z.all) (c1.ext ok1 z) (RpS.fresh (r := .o _) (lst_new ok1 hp rs.reverse) x1 ok1 c1 z)
      · cases e3
    · cases he
  · cases he) (fun h => by obtain ⟨x, kk, p1, p2, p3, p, rfl, h1⟩ := inv_rev h; exact ⟨rfl, rfl⟩)

/-! ### slices -/
theorem so_none : SO G F k .none := ⟨fun {X e} c h => by
  cases e with
  | some e => exact ff h
  | none =>
    refine ⟨fun pins s σ H Q I ⟨cs, Av, ρ, st, r, i, st', ok, cl, en, he, hi, q⟩ => po_none.run pins s σ H Q I ?_⟩
    simp only [evO] at he
    cases he
    cases hi
    exact q H (Ext.refl _ _) cl⟩
theorem so_some (ha : SE G F k a) : SO G F k (.some a) := ⟨fun {X e} c h => by
  cases e with
  | none => exact ff h
  | some e =>
    refine ⟨fun pins s σ H Q I ⟨cs, Av, ρ, st, r, i, st', ok, cl, en, he, hi, q⟩ => (po_some (ha.s c h)).run pins s σ H Q I ?_⟩
    simp only [evO] at he
    split at he
    · rename_i x st1 e1
      simp only [Option.some.injEq, Prod.mk.injEq] at he
      obtain ⟨rfl, rfl⟩ := he
      refine ⟨cs, Av, ρ, st, x, _, ok, cl, en, e1, fun v H1 x1 c1 r1 => ?_⟩
      have r1' := r1.1.w ok
      unfold asInt? at hi
      split at hi
      · cases hi; exact absurd ‹some x.d = none› (by simp)
      · rename_i j hj
        split at hi
        · cases hi
          have hj : x.d = .int j := Option.some.inj hj
          rw [hj] at r1'
          exact ⟨j, r1'.int, q H1 x1 c1⟩
        · cases hi
      · cases hi
    · cases he⟩
theorem cut_rel {K : PySem.W.Frag} {cs : List Addr} {Av : Addr → Prop} {H : Hp} {vs : List V} {ds : List D} {lo hi : Option Int} (rs : Rps K cs Av H vs ds) : Rps K cs Av H (cutV vs lo hi) (cut ds lo hi) := by
  unfold cutV cut
  rw [rs.length]
  exact (rs.drop _).take _
theorem cut_all {α : Type} {xs : List α} {lo hi : Option Int} (h1 : HT.sIx xs.length 0 lo = 0) (h2 : HT.sIx xs.length xs.length hi = xs.length) : cut xs lo hi = xs := by
  unfold cut
  rw [h1, h2]
  simp
theorem se_sl {lo hi : CEo} (ha : SE G F k a) (hl : SO G F k lo) (hh : SO G F k hi) : SE G F k (.sl a lo hi) := SE.of (fun {X e w} c h => by
  obtain ⟨x, l, u, p2, p, rfl, h1, h2, h3⟩ := inv_sl h
  refine PEimp (pe_slice (sl_tupD.or sl_list) (ha.w c h1) (hl.o c h2) (hh.o c h3)) fun σ H Q ⟨cs, Av, ρ, st, r, st', ok, cl, en, he, q⟩ => ?_
  simp only [evE] at he
  split at he
  · rename_i x st1 e1
    split at he
    · rename_i lv st2 e2
      split at he
      · rename_i hv st3 e3
        split at he
        · rename_i z e4
          simp only [Option.some.injEq, Prod.mk.injEq] at he
          obtain ⟨rfl, rfl⟩ := he
          refine ⟨cs, Av, ρ, st, x, st1, ok, cl, en, e1, fun v H1 x1 c1 r1 => ?_⟩
          have ok1 := ok.ext x1 c1
          have en1 := en.ext ok x1
          have hi1 : ∃ i, asInt? lv = some i := by
            unfold sl3 at e4
            split at e4 <;> first | exact ⟨_, by assumption⟩ | cases e4
          have hi2 : ∃ i, asInt? hv = some i := by
            unfold sl3 at e4
            split at e4 <;> first | exact ⟨_, by assumption⟩ | cases e4
          obtain ⟨i, hi1⟩ := hi1
          obtain ⟨j, hi2⟩ := hi2
          refine ⟨cs, Av, ρ, st1, lv, i, st2, ok1, c1, en1, e2, hi1, fun H2 x2 c2 => ?_⟩
          have ok2 := ok1.ext x2 c2
          have en2 := en1.ext ok1 x2
          refine ⟨cs, Av, ρ, st2, hv, j, _, ok2, c2, en2, e3, hi2, fun H3 x3 c3 => ?_⟩
          have ok3 := ok2.ext x3 c3
          have x13 := (x1.trans x2).trans x3
          have r1' := r1.ext ok1 (x2.trans x3)
          generalize hxd : x.d = xd at r1' e4
          unfold sl3 at e4
          rw [hi1, hi2] at e4
          cases xd with
          | tuple ds =>
            cases e4
            obtain ⟨a, vs, rfl, hs, rs⟩ := r1'.tuple
            refine .inl ⟨a, vs, rfl, hs.t, fun ⟨q1, q2⟩ => ?_, fun _ p o ho hp => ?_⟩
            · refine q _ H3 x13 c3 (.vv ?_)
              rw [rs.length] at q1 q2
              rw [cut_all q1 q2]
              exact .tup hs rs
            · have z : Ext [] H3 (upd H3 p (.frz o (.tup (cutV vs i j)))) := Ext.upd hp
              exact q _ _ (x13.trans z.all) (c3.ext ok3 z) (.vv (.tup (SqD.new ho) ((cut_rel rs).ext ok3 z.all)))
          | list ds =>
            cases e4
            obtain ⟨a, vs, rfl, hs, rs⟩ := r1'.list
            refine .inr ⟨a, vs, rfl, hs, fun p hp => ?_⟩
            have z : Ext [] H3 (upd H3 p (.lst (cutV vs i j))) := Ext.upd hp
            exact q _ _ (x13.trans z.all) (c3.ext ok3 z) (RpS.fresh (r := .o _) (lst_new ok3 hp (cut_rel rs)) x13 ok3 c3 z)
          | _ => cases e4
        · cases he
      · cases he
    · cases he
  · cases he) (fun h => by obtain ⟨x, l, u, p2, p, rfl, _⟩ := inv_sl h; exact ⟨rfl, rfl⟩)

/-! ### argument lists -/
theorem ses_nil : SEs G F k .nil := by
  have key : ∀ {X : Cx}, PA X [] (tAs X.K F .nil) := fun {X} => PAimp pa_nil fun σ H Q ⟨cs, Av, ρ, st, ds, st', ok, cl, en, he, q⟩ => by
    simp only [evEs] at he
    cases he
    exact q [] H (Ext.refl _ _) cl .nil
  have keyw : ∀ {X : Cx}, PA X [] (tAw X.K F .nil) := fun {X} => PAimp pa_nil fun σ H Q ⟨cs, Av, ρ, st, ds, st', ok, cl, en, he, q⟩ => by
    simp only [evEs] at he
    cases he
    exact q [] H (Ext.refl _ _) cl .nil
  refine ⟨fun {X l} c h => ?_, fun {X l} c h => ?_, fun {X l} c h => ?_⟩
  · cases l with
    | nil => exact key
    | cons => exact ff h
  · cases l with
    | nil => exact key
    | cons => exact ff h
  · cases l with
    | nil => exact keyw
    | cons => exact ff h
theorem evEs_cons {r : CEs} {ρ : Rho} {st st' : Sto} {ds : List D} (he : evEs F (.cons false a r) ρ st = some (ds, st')) : ∃ x st1 es, evE F a ρ st = some (x, st1) ∧ evEs F r ρ st1 = some (es, st') ∧ ds = x.d :: es := by
  simp only [evEs] at he
  split at he
  · rename_i x st1 e1
    split at he
    · rename_i es st2 e2
      simp only [Option.some.injEq, Prod.mk.injEq] at he
      obtain ⟨rfl, rfl⟩ := he
      exact ⟨x, st1, es, e1, e2, rfl⟩
    · cases he
  · cases he
theorem evEs_star {r : CEs} {ρ : Rho} {st st' : Sto} {ds : List D} (he : evEs F (.cons true a r) ρ st = some (ds, st')) : ∃ x st1 es xs, evE F a ρ st = some (x, st1) ∧ evEs F r ρ st1 = some (es, st') ∧ (x.d = .tuple xs ∨ x.d = .list xs) ∧ ds = xs ++ es := by
  simp only [evEs] at he
  split at he
  · rename_i x st1 e1
    split at he
    · rename_i es st2 e2
      split at he
      · rename_i h; cases h
      · rename_i xs _ hx
        simp only [Option.some.injEq, Prod.mk.injEq] at he
        obtain ⟨rfl, rfl⟩ := he
        exact ⟨x, st1, es, xs, e1, e2, .inl hx, rfl⟩
      · rename_i xs _ hx
        simp only [Option.some.injEq, Prod.mk.injEq] at he
        obtain ⟨rfl, rfl⟩ := he
        exact ⟨x, st1, es, xs, e1, e2, .inr hx, rfl⟩
      · cases he
    · cases he
  · cases he
theorem ses_cons {r : CEs} (ha : SE G F k a) (hr : SEs G F k r) : SEs G F k (.cons false a r) := by
  have key : ∀ {X : Cx} {e : Expr} {es : List Expr}, plainE e = true → PE X e (tS X.K F a) → PA X es (tAs X.K F r) → PA X (e :: es) (tAs X.K F (.cons false a r)) := fun {X e es} hp h1 h2 =>
    PAimp (pa_cons h1 h2 (star_plain hp es X.env)) fun σ H Q ⟨cs, Av, ρ, st, ds, st', ok, cl, en, he, q⟩ => by
      obtain ⟨x, st1, es', e1, e2, rfl⟩ := evEs_cons he
      refine ⟨cs, Av, ρ, st, x, st1, ok, cl, en, e1, fun v H1 x1 c1 r1 => ?_⟩
      have ok1 := ok.ext x1 c1
      refine ⟨cs, Av, ρ, st1, es', st', ok1, c1, en.ext ok x1, e2, fun vs H2 x2 c2 r2 => ?_⟩
      exact q _ H2 (x1.trans x2) c2 (.cons ((r1.1.rp ok.there).ext ok1 x2) r2)
  refine ⟨fun {X l} c h => ?_, fun {X l} c h => ?_, fun {X l} c h => ?_⟩
  · cases l with
    | nil => exact ff h
    | cons e es =>
      simp only [chkEs, Bool.and_eq_true] at h
      exact key h.1.1 (ha.s c h.1.2) (hr.a c h.2)
  · cases l with
    | nil => exact ff h
    | cons e es =>
      simp only [chkAs, Bool.and_eq_true] at h
      exact key h.1.1 (ha.s c h.1.2) (hr.p c h.2)
  · cases l with
    | nil => exact ff h
    | cons e es =>
      simp only [chkAs, Bool.and_eq_true] at h
      refine PAimp (pa_cons (ha.w c h.1.2) (hr.q c h.2) (star_plain h.1.1 es X.env)) fun σ H Q ⟨cs, Av, ρ, st, ds, st', ok, cl, en, he, q⟩ => ?_
      obtain ⟨x, st1, es', e1, e2, rfl⟩ := evEs_cons he
      refine ⟨cs, Av, ρ, st, x, st1, ok, cl, en, e1, fun v H1 x1 c1 r1 => ?_⟩
      have ok1 := ok.ext x1 c1
      refine ⟨cs, Av, ρ, st1, es', st', ok1, c1, en.ext ok x1, e2, fun vs H2 x2 c2 r2 => ?_⟩
      exact q _ H2 (x1.trans x2) c2 (.cons (r1.ext ok1 x2) r2)
theorem ses_star {r : CEs} (ha : SE G F k a) (hr : SEs G F k r) : SEs G F k (.cons true a r) := by
  refine ⟨fun {X l} c h => ?_, fun {X l} c h => ?_, fun {X l} c h => ?_⟩
  · cases l with
    | nil => exact ff h
    | cons e es =>
      cases e
      case Starred e p =>
        have h' : (chkE G X.env.scope true a e && chkEs G X.env.scope r es) = true := h
        simp only [Bool.and_eq_true] at h'
        refine PAimp (StX.pa_star (ha.w c h'.1) (hr.a c h'.2) rfl) fun σ H Q ⟨cs, Av, ρ, st, ds, st', ok, cl, en, he, q⟩ => ?_
        obtain ⟨x, st1, es', xs, e1, e2, hx, rfl⟩ := evEs_star he
        refine ⟨cs, Av, ρ, st, x, st1, ok, cl, en, e1, fun v H1 x1 c1 r1 => ?_⟩
        have ok1 := ok.ext x1 c1
        rcases hx with hx | hx
        · rw [hx] at r1
          obtain ⟨p, vs, rfl, hs, rs⟩ := r1.tuple
          refine ⟨p, vs, rfl, .inl hs.t, ?_⟩
          exact ⟨cs, Av, ρ, st1, es', st', ok1, c1, en.ext ok x1, e2, fun us H2 x2 c2 r2 => q _ H2 (x1.trans x2) c2 ((rs.ext ok1 x2).append r2)⟩
        · rw [hx] at r1
          obtain ⟨p, vs, rfl, hs, rs⟩ := r1.list
          refine ⟨p, vs, rfl, .inr hs, ?_⟩
          exact ⟨cs, Av, ρ, st1, es', st', ok1, c1, en.ext ok x1, e2, fun us H2 x2 c2 r2 => q _ H2 (x1.trans x2) c2 ((rs.ext ok1 x2).append r2)⟩
      all_goals exact ff h
  · cases l <;> exact ff h
  · cases l <;> exact ff h

/-! ### calls -/
theorem chkAs_hd {sc : Scope} {es : CEs} {y : Expr} {l : List Expr} {w : Bool} (h : chkAs G sc w es (y :: l) = true) (env : Env) (pos : Pos) : starEach (y :: l) env = (false, eval y env) :: starEach l env ∧ (backTo pos (starEach l env)).any (·.1) = false := by
  have := chkAs_plain h
  simp only [List.all_cons, Bool.and_eq_true] at this
  exact ⟨star_plain this.1 l env, nostar_any this.2⟩
theorem se_call {f : Nat} {es : CEs} (hs : SEs G F k es) : SE G F k (.call f es) := SE.of (fun {X e w} c h => by
  obtain ⟨x, p, y, l, p', rfl, h1, h2, h3, h4⟩ := inv_call h
  have hf : G.fn.lookup f = some x := by
    unfold fnIs at h1
    split at h1
    · rename_i z hz; rw [hz, eq_of_beq h1]
    · cases h1
  obtain ⟨a, fd, ps, hm, hk, FG, hb, hn, _⟩ := c.g.fn f x hf
  refine ⟨fun pins s σ H Q I ⟨cs, Av, ρ, st, r, st', ok, cl, en, he, q⟩ => ?_⟩
  simp only [evE] at he
  split at he
  · rename_i ds st1 e1
    refine wpAny_Call_Name_kw (ld_glob I (isGl_of h2) hm ?_ (okN_of h3).1)
    refine PySem.W.callWith_K (h₀ := X.base) I.ok.mod.kin hk (thn ((hs.p c h4).run p' pins s σ H (fun vs H1 => spF X.K (F f) ps.length vs H1 Q E0) I ⟨cs, Av, ρ, st, ds, st1, ok, cl, en, e1, fun vs H1 x1 c1 rs => ?_⟩) fun us s1 ⟨vs, H1, I1, rv, q1⟩ => ⟨I1.kIn, ?_⟩) (chkAs_hd h4 _ p').1 (chkAs_hd h4 _ p').2
    · have ok1 := ok.ext x1 c1
      exact ⟨by rw [rs.length]; exact hn _ _ _ he, cs, Av, ds, st1, r, st', ok1, c1, rs, he, fun v H' x2 c2 r2 => q v H' (x1.trans x2) c2 (r2.old x1 ok1)⟩
    · have hl : us.length = ps.length := by rw [← rv.length]; exact q1.1
      have hb' := hb s1 us I1.kIn (by simpa using hl)
      rw [List.append_nil] at hb'
      exact run_g FG c.rm c.gd hb' I1 rv q1
  · cases he) (fun h => by obtain ⟨x, p, y, l, p', rfl, _⟩ := inv_call h; exact ⟨rfl, rfl⟩)

def rKs (K : PySem.W.Frag) (F : FT) (ces : CEs) : TA := tAs K F ces
theorem pk_ok : ∀ {es : CEs} {kws : List Keyword}, (∀ {a r}, es = .cons false a r → SE G F k a) → True := fun _ => trivial
structure SKs (G : Ga) (F : FT) (k : Nat) (ces : CEs) : Prop where
  k : ∀ {X : Cx} {l : List Keyword}, Cd G F k X → chkKs G X.env.scope ces l = true → PK X l (tAs X.K F ces)
theorem sks_nil : SKs G F k .nil := ⟨fun {X l} c h => by
  cases l with
  | cons => exact ff h
  | nil =>
    refine ⟨fun pos pins s σ H Q I ⟨cs, Av, ρ, st, ds, st', ok, cl, en, he, q⟩ => pk_nil.run pos pins s σ H Q I ?_⟩
    simp only [evEs] at he
    cases he
    exact q [] H (Ext.refl _ _) cl .nil⟩
theorem sks_cons {r : CEs} (ha : SE G F k a) (hr : SKs G F k r) : SKs G F k (.cons false a r) := ⟨fun {X l} c h => by
  cases l with
  | nil => exact ff h
  | cons e es =>
    obtain ⟨nm, e, kp⟩ := e
    have h' : (chkE G X.env.scope false a e && chkKs G X.env.scope r es) = true := h
    simp only [Bool.and_eq_true] at h'
    refine ⟨fun pos pins s σ H Q I ⟨cs, Av, ρ, st, ds, st', ok, cl, en, he, q⟩ => (pk_cons (ha.s c h'.1) (hr.k c h'.2)).run pos pins s σ H Q I ?_⟩
    obtain ⟨x, st1, es', e1, e2, rfl⟩ := evEs_cons he
    refine ⟨cs, Av, ρ, st, x, st1, ok, cl, en, e1, fun v H1 x1 c1 r1 => ?_⟩
    have ok1 := ok.ext x1 c1
    refine ⟨cs, Av, ρ, st1, es', st', ok1, c1, en.ext ok x1, e2, fun vs H2 x2 c2 r2 => ?_⟩
    exact q _ H2 (x1.trans x2) c2 (.cons ((r1.1.rp ok.there).ext ok1 x2) r2)⟩
theorem sks_star {r : CEs} : SKs G F k (.cons true a r) := ⟨fun {X l} c h => by cases l <;> exact ff h⟩
theorem kw_names {env : Env} {pos : Pos} : ∀ {kws : List Keyword} {ks : List Str}, kwNames kws = some ks → (backToKw pos (keywordEach kws env)).all (·.1.isSome) = true ∧ (backToKw pos (keywordEach kws env)).filterMap (·.1) = ks ∧ (backToKw pos (keywordEach kws env)).any (·.1.isNone) = false
  | [], ks, h => by cases h; exact ⟨rfl, rfl, rfl⟩
  | ⟨none, e, p⟩ :: r, ks, h => by cases h
  | ⟨some n, e, p⟩ :: r, ks, h => by
    obtain ⟨ms, hm, rfl⟩ := Option.map_eq_some_iff.mp h
    obtain ⟨h1, h2, h3⟩ := kw_names (env := env) (pos := pos) hm
    refine ⟨?_, ?_, ?_⟩
    · show (true && (backToKw pos (keywordEach r env)).all (·.1.isSome)) = true
      rw [h1]; rfl
    · show n :: (backToKw pos (keywordEach r env)).filterMap (·.1) = n :: ms
      rw [h2]
    · show (false || (backToKw pos (keywordEach r env)).any (·.1.isNone)) = false
      rw [h3]; rfl
theorem Rps.getD {K : PySem.W.Frag} {cs : List Addr} {Av : Addr → Prop} {H : Hp} : ∀ {vs : List V} {ds : List D} (i : Nat), Rps K cs Av H vs ds → Rp K cs Av H (vs.getD i .non) (ds.getD i .none)
  | _, _, _, .nil => by simpa using .non
  | _, _, 0, .cons r _ => by simpa using r
  | _, _, i + 1, .cons _ t => by simpa using Rps.getD i t
theorem Rps.perm {K : PySem.W.Frag} {cs : List Addr} {Av : Addr → Prop} {H : Hp} {vs : List V} {ds : List D} (h : Rps K cs Av H vs ds) : ∀ perm : List Nat, Rps K cs Av H (perm.map fun i => vs.getD i .non) (permD ds perm)
  | [] => .nil
  | i :: r => .cons (h.getD i) (h.perm r)
theorem vals_getD : ∀ {vs : List V} {us : List Value} (i : Nat), Vals vs us → RelV (vs.getD i .non) (us.getD i .none)
  | _, _, _, .nil => by simp; rfl
  | _, _, 0, .cons r _ => by simpa using r
  | _, _, i + 1, .cons _ t => by simpa using vals_getD i t
theorem vals_perm {vs : List V} {us : List Value} (h : Vals vs us) : ∀ perm : List Nat, Vals (perm.map fun i => vs.getD i .non) (perm.map fun i => us.getD i .none)
  | [] => .nil
  | i :: r => .cons (vals_getD i h) (vals_perm h r)
theorem kw_len : ∀ {kws : List Keyword} {ks : List Str}, kwNames kws = some ks → ks.length = kws.length
  | [], ks, h => by cases h; rfl
  | ⟨none, e, p⟩ :: r, ks, h => by cases h
  | ⟨some n, e, p⟩ :: r, ks, h => by
    obtain ⟨ms, hm, rfl⟩ := Option.map_eq_some_iff.mp h
    simp [kw_len hm]
theorem chkKs_len {sc : Scope} : ∀ {es : CEs} {kws : List Keyword} {ρ : Rho} {st st' : Sto} {ds : List D}, chkKs G sc es kws = true → evEs F es ρ st = some (ds, st') → ds.length = kws.length
  | .nil, [], ρ, st, st', ds, _, he => by simp only [evEs] at he; cases he; rfl
  | .nil, _ :: _, ρ, st, st', ds, h, _ => ff h
  | .cons true _ _, [], ρ, st, st', ds, h, _ => ff h
  | .cons true _ _, _ :: _, ρ, st, st', ds, h, _ => ff h
  | .cons false _ _, [], ρ, st, st', ds, h, _ => ff h
  | .cons false c r, ⟨_, e, _⟩ :: ks, ρ, st, st', ds, h, he => by
    have h' : (chkE G sc false c e && chkKs G sc r ks) = true := h
    simp only [Bool.and_eq_true] at h'
    obtain ⟨x, st1, es', e1, e2, rfl⟩ := evEs_cons he
    simp [chkKs_len h'.2 e2]
theorem chkAs_len {sc : Scope} {w : Bool} : ∀ {es : CEs} {l : List Expr} {ρ : Rho} {st st' : Sto} {ds : List D}, chkAs G sc w es l = true → evEs F es ρ st = some (ds, st') → ds.length = l.length
  | .nil, [], ρ, st, st', ds, _, he => by simp only [evEs] at he; cases he; rfl
  | .nil, _ :: _, ρ, st, st', ds, h, _ => ff h
  | .cons true _ _, [], ρ, st, st', ds, h, _ => ff h
  | .cons true _ _, _ :: _, ρ, st, st', ds, h, _ => ff h
  | .cons false _ _, [], ρ, st, st', ds, h, _ => ff h
  | .cons false c r, e :: ks, ρ, st, st', ds, h, he => by
    simp only [chkAs, Bool.and_eq_true] at h
    obtain ⟨x, st1, es', e1, e2, rfl⟩ := evEs_cons he
    simp [chkAs_len h.2 e2]
theorem se_callk {f : Nat} {es : CEs} {perm : List Nat} (hs : SKs G F k es) : SE G F k (.callk f es perm) := SE.of (fun {X e w} c h => by
  obtain ⟨x, p, kw, kws, p', rfl, h1, h2, h3, h4, h5⟩ := inv_callk h
  have hf : G.fn.lookup f = some x := by
    unfold fnIs at h1
    split at h1
    · rename_i z hz; rw [hz, eq_of_beq h1]
    · cases h1
  have hkb : ∃ ks, kwNames (kw :: kws) = some ks ∧ (f, ks, perm) ∈ G.kb := by
    unfold kbIs at h4
    split at h4
    · rename_i ks hks
      refine ⟨ks, hks, ?_⟩
      rw [List.any_eq_true] at h4
      obtain ⟨⟨q1, q2, q3⟩, hm, hq⟩ := h4
      simp only [Bool.and_eq_true] at hq
      obtain ⟨e1, e2, e3⟩ := hq
      obtain rfl := eq_of_beq e1
      obtain rfl := eq_of_beq e2
      obtain rfl := eq_of_beq e3
      exact hm
    · cases h4
  obtain ⟨ks, hks, hmem⟩ := hkb
  obtain ⟨a, fd, ps, hm, hk, FG, hb, hn, hkw⟩ := c.g.fn f x hf
  obtain ⟨hpl, hkw⟩ := hkw ks perm hmem
  refine ⟨fun pins s σ H Q I ⟨cs, Av, ρ, st, r, st', ok, cl, en, he, q⟩ => ?_⟩
  simp only [evE] at he
  split at he
  · rename_i ds st1 e1
    refine wpAny_Call_Name_kw (ld_glob I (isGl_of h2) hm ?_ (okN_of h3).1)
    obtain ⟨k1, k2, k3⟩ := kw_names (env := X.env) (pos := p') hks
    refine PySem.W.callWith_KW0 (h₀ := X.base) I.ok.mod.kin hk k1 (thn ((hs.k c h5).run p' pins s σ H (fun vs H1 => vs.length = ks.length ∧ spF X.K (F f) ps.length (perm.map fun i => vs.getD i .non) H1 Q E0) I ⟨cs, Av, ρ, st, ds, st1, ok, cl, en, e1, fun vs H1 x1 c1 rs => ?_⟩) fun us s1 ⟨vs, H1, I1, rv, q1⟩ => ⟨I1.kIn, ?_⟩) ?_
    · have ok1 := ok.ext x1 c1
      refine ⟨?_, by simpa using hpl, cs, Av, permD ds perm, st1, r, st', ok1, c1, rs.perm perm, he, fun v H' x2 c2 r2 => q v H' (x1.trans x2) c2 (r2.old x1 ok1)⟩
      rw [rs.length, chkKs_len h5 e1, kw_len hks]
    · rw [k2]
      have hb' : BindsTo s1 fd ⟨[], ks.zip us⟩ (ps.zip (perm.map fun i => us.getD i .none)) := BindsTo.of_eq (hkw us (by rw [← rv.length]; exact q1.1))
      exact run_g FG c.rm c.gd hb' I1 (vals_perm rv perm) q1.2
    · rw [k3]; rfl
  · cases he) (fun h => by obtain ⟨x, p, kw, kws, p', rfl, _⟩ := inv_callk h; exact ⟨rfl, rfl⟩)
end
end Ev

set_option Elab.async false
set_option linter.all false
set_option maxRecDepth 100000
set_option maxHeartbeats 4000000
/-! Expressions: builtins, isinstance, list(range(..)). -/
namespace Ev
open PySem PySem.Spec PyProof.Rows L2
section
variable {G : Ga} {F : FT} {k : Nat} {X : Cx} {e : Expr} {ce a b c : CE} {w : Bool}
theorem okN_name {x : Str} (h : okN x = true) : x ≠ "__name__" := (okN_of h).2.2
theorem se_blt {bl : Bl} {es : CEs} (hs : SEs G F k es) : SE G F k (.blt bl es) := SE.of (fun {X e w} c h => by
  obtain ⟨p, y, l, p', rfl, h2, h3, h4⟩ := inv_blt h
  have key : PE X (.Call (.Name (bltName bl) p) (y :: l) [] p') (tCB (rBl X.K bl) (tAw X.K F es)) := by
    have cr := bl_ok c.calm c.gd c.u bl
    rcases bltV_boot bl with ⟨n, hv, hb⟩ | ⟨n, hv, hb⟩
    · rw [hv] at cr
      exact pe_callB cr (isGl_of h2) (blt_ok c bl) hb (hs.q c h4) (okN_of h3).2.2 (okN_of h3).1 (chkAs_hd h4 _ p').1 (chkAs_hd h4 _ p').2
    · rw [hv] at cr
      exact pe_callTy cr (isGl_of h2) (blt_ok c bl) hb (hs.q c h4) (okN_of h3).2.2 (okN_of h3).1 (chkAs_hd h4 _ p').1 (chkAs_hd h4 _ p').2
  refine PEimp key fun σ H Q ⟨cs, Av, ρ, st, r, st', ok, cl, en, he, q⟩ => ?_
  simp only [evE] at he
  split at he
  · rename_i ds st1 e1
    split at he
    · rename_i z e2
      simp only [Option.some.injEq, Prod.mk.injEq] at he
      obtain ⟨rfl, rfl⟩ := he
      refine ⟨cs, Av, ρ, st, ds, _, ok, cl, en, e1, fun vs H1 x1 c1 r1 => ?_⟩
      have ok1 := ok.ext x1 c1
      exact ⟨cs, Av, ds, z, ok1, r1, e2, fun v H' x2 r2 => q v H' (x1.trans x2.all) (c1.ext ok1 x2) (.fresh r2 x1 ok1 c1 x2)⟩
    · cases he
  · cases he) (fun h => by obtain ⟨p, y, l, p', rfl, _⟩ := inv_blt h; exact ⟨rfl, rfl⟩)

/-! ### isinstance -/
def dTy : D → String
  | .none => "NoneType" | .bool _ => "bool" | .int _ => "int" | .str _ => "str" | .list _ => "list" | .tuple _ => "tuple" | .dict _ => "dict"
def tyStr : Ty → String
  | .int => "int" | .bool => "bool" | .str => "str" | .tup => "tuple" | .lst => "list"
theorem isi_kit {t : Ty} {d : D} {r : Bool} (h : isi t d = some r) : kitB (dTy d) (tyStr t) = some r := by
  cases d with
  | dict kvs =>
    have e : r = false := by
      unfold isi at h
      cases t <;> (split at h <;> first | (cases h; done) | (cases h; rfl) | (rename_i e1 e2; cases e2))
    subst e
    cases t <;> (dsimp only [dTy, tyStr]; decide +kernel)
  | _ => cases t <;> cases h <;> dsimp only [dTy, tyStr] <;> decide +kernel
theorem isi_ty {K : PySem.W.Frag} {cs : List Addr} {Av : Addr → Prop} {H : Hp} {v : V} {d : D} (rw : Rw K cs Av H v d) (hd : ∀ y xs, d ≠ .dict ((.none, y) :: xs)) : TyX K H v (.type (dTy d)) := by
  cases d with
  | none =>
    rcases rw with rw | ⟨_, _, _, _, e, _⟩
    · cases rw; exact .base .non
    · cases e
  | bool b => obtain rfl := rw.bool; exact .base (.bl b)
  | int b => obtain rfl := rw.int; exact .base (.int b)
  | str b => obtain rfl := rw.str; exact .base (.str b)
  | list ds =>
    obtain ⟨a, vs, rfl, hs, rs⟩ := rw.list
    rcases hs with (hs | ⟨o, hs⟩) | ⟨o, its, n, hl, hc, _⟩
    · exact .base (.lst hs)
    · exact .base (.frz hs)
    · exact .kList hl hc
  | tuple ds =>
    obtain ⟨a, vs, rfl, hs, rs⟩ := rw.tuple
    rcases hs.t with (hs | ⟨o, hs⟩) | ⟨o, its, n, hl, hc, _⟩
    · exact .base (.tup hs)
    · exact .fTuple hs
    · exact .kTuple hl hc
  | dict kd =>
    rcases rw with rw | ⟨_, _, _, _, e, _⟩
    · cases rw with
      | cell hn => exact absurd rfl (hd _ _)
      | dct hH h0 hl rs hk => exact .base (.dK hH)
      | dct0 hH => exact .base (.dT hH)
    · cases e
theorem se_isi {t : Ty} (ha : SE G F k a) : SE G F k (.isi t a) := SE.of (fun {X e w} c h => by
  obtain ⟨p, y, p2, p', rfl, h1, h2, h3, h4⟩ := inv_isi h
  have hmi : X.mg "isinstance" = none := c.g.blt _ (by simp [bltNames])
  have hmt : X.mg (tyName t) = none := c.g.blt _ (by cases t <;> simp [tyName, bltNames])
  have hbt : bootBuiltins (tyName t) = some (.type (tyStr t)) := by cases t <;> decide +kernel
  have hn : tyName t ≠ "__name__" := by cases t <;> decide
  have hd : (tyName t == ("__debug__" : Str)) = false := by cases t <;> decide
  have pt : PE X (.Name (tyName t) p2) (tC (.ty (tyStr t))) := pe_bltn (isGl_of h2) hmt hbt rfl hn hd
  refine PEimp (pe_callB call_isi (isGl_of h1) hmi (by decide +kernel) (pa_cons (ha.w c h4) (pa_cons pt pa_nil rfl) (star_plain h3 _ _)) (by decide) (by decide) (star_plain h3 _ _) rfl) fun σ H Q ⟨cs, Av, ρ, st, r, st', ok, cl, en, he, q⟩ => ?_
  simp only [evE] at he
  split at he
  · rename_i x st1 e1
    split at he
    · rename_i b e2
      simp only [Option.some.injEq, Prod.mk.injEq] at he
      obtain ⟨rfl, rfl⟩ := he
      refine ⟨cs, Av, ρ, st, x, _, ok, cl, en, e1, fun v H1 x1 c1 r1 => ?_⟩
      refine ⟨v, .ty (tyStr t), .type (dTy x.d), .type (tyStr t), b, rfl, .ty _, isi_ty r1 (fun y xs hx => ?_), kit_ty (isi_kit e2), q _ H1 x1 c1 (.vv (.bl b))⟩
      rw [hx] at e2
      cases t <;> cases e2
    · cases he
  · cases he) (fun h => by obtain ⟨p, y, p2, p', rfl, _⟩ := inv_isi h; exact ⟨rfl, rfl⟩)

/-! ### list(range(..)), tuple(range(..)) -/
def tRgA (ta : TA) : L2.St → Hp → (Int → Int → Hp → Prop) → Prop := fun σ H Q => ta σ H fun vs H1 => (∃ j : Int, vs = [.int j] ∧ Q 0 j H1) ∨ ∃ i j : Int, vs = [.int i, .int j] ∧ Q i j H1
theorem prg_A {l : List Expr} {ta : TA} {p pos : Pos} (hl : lenOk l = true) (hp : l.all plainE = true) (hg : Gl X "range") (hm : X.mg "range" = none) (ha : PA X l ta) : PRg X (.Call (.Name "range" p) l [] pos) (tRgA ta) := by
  intro pins s σ H Q I h
  match l, hl with
  | [x], _ =>
    simp only [List.all_cons, List.all_nil, Bool.and_true] at hp
    refine Call_ (ld_blt I hg hm boot_range (PyProof.Rows.callWith_type1 (thn (ha.run pos pins s σ H _ I h) fun us s1 ⟨vs, H1, I1, r1, q1⟩ => ?_) (star_plain hp [] X.env) rfl))
    rcases q1 with ⟨j, rfl, q⟩ | ⟨i, j, rfl, q⟩
    · cases r1 with
      | cons r rr =>
        cases rr
        obtain ⟨t, rfl⟩ := r
        exact call_range_1 ⟨_, 0, j, _, _, _, H1, rfl, IsRange.new _ _ _ _ _ _ _, I1.kept fun b u e => Heap.get?_push_of_some _ e, q⟩
    · cases r1 with
      | cons r rr =>
        cases rr with
        | cons r' rr =>
          cases rr
          obtain ⟨t, rfl⟩ := r
          obtain ⟨t', rfl⟩ := r'
          exact call_range_2 ⟨_, i, j, _, _, _, H1, rfl, IsRange.new _ _ _ _ _ _ _, I1.kept fun b u e => Heap.get?_push_of_some _ e, q⟩
  | [x, y], _ =>
    simp only [List.all_cons, List.all_nil, Bool.and_true, Bool.and_eq_true] at hp
    refine Call_ (ld_blt I hg hm boot_range (PyProof.Rows.callWith_type1 (thn (ha.run pos pins s σ H _ I h) fun us s1 ⟨vs, H1, I1, r1, q1⟩ => ?_) (star_plain hp.1 [y] X.env) (nostar_any (by simp [hp.2]))))
    rcases q1 with ⟨j, rfl, q⟩ | ⟨i, j, rfl, q⟩
    · cases r1 with
      | cons r rr =>
        cases rr
        obtain ⟨t, rfl⟩ := r
        exact call_range_1 ⟨_, 0, j, _, _, _, H1, rfl, IsRange.new _ _ _ _ _ _ _, I1.kept fun b u e => Heap.get?_push_of_some _ e, q⟩
    · cases r1 with
      | cons r rr =>
        cases rr with
        | cons r' rr =>
          cases rr
          obtain ⟨t, rfl⟩ := r
          obtain ⟨t', rfl⟩ := r'
          exact call_range_2 ⟨_, i, j, _, _, _, H1, rfl, IsRange.new _ _ _ _ _ _ _, I1.kept fun b u e => Heap.get?_push_of_some _ e, q⟩
theorem small_iff {i : Int} (h : small i = true) : -(2 ^ 40) < i ∧ i < 2 ^ 40 := by simpa [small] using h
theorem Rps.rng {K : PySem.W.Frag} {cs : List Addr} {Av : Addr → Prop} {H : Hp} (lo : Int) (l : List Nat) : Rps K cs Av H (l.map fun i => V.int (lo + (i : Nat))) (l.map fun i => PyData.int (lo + (i : Nat))) := by
  induction l with
  | nil => exact .nil
  | cons x r ih => exact .cons (.int _) ih
theorem rangeOf_12 {ds z : List D} (h : rangeOf ds = some z) (hl : ds.length ≤ 2) : ∃ i j : Int, RgOk i j ∧ z = rangeL i (j - i).toNat ∧ ((ds = [.int j] ∧ i = 0) ∨ ds = [.int i, .int j]) := by
  unfold rangeOf at h
  split at h
  · rename_i j
    split at h
    · rename_i hs
      simp only [Bool.and_eq_true, decide_eq_true_eq] at hs
      have := small_iff hs.1
      have hm : j ≤ 100000 := hs.2
      cases h
      refine ⟨0, j, ⟨by omega, by omega, by omega, by omega, by omega⟩, by simp, .inl ⟨rfl, rfl⟩⟩
    · cases h
  · rename_i i j
    split at h
    · rename_i hs
      simp only [Bool.and_eq_true, decide_eq_true_eq] at hs
      have h1 := small_iff hs.1.1
      have h2 := small_iff hs.1.2
      have hm : j - i ≤ 100000 := hs.2
      cases h
      exact ⟨i, j, ⟨by omega, by omega, by omega, by omega, by omega⟩, rfl, .inr rfl⟩
    · cases h
  · simp at hl
  · cases h
theorem rps_range_in {K : PySem.W.Frag} {cs : List Addr} {Av : Addr → Prop} {H : Hp} {vs : List V} {ds : List D} {i j : Int} {Q : Int → Int → Hp → Prop} (r : Rps K cs Av H vs ds) (h : (ds = [.int j] ∧ i = 0) ∨ ds = [.int i, .int j]) (q : Q i j H) :
    (∃ j : Int, vs = [.int j] ∧ Q 0 j H) ∨ ∃ i j : Int, vs = [.int i, .int j] ∧ Q i j H := by
  rcases h with ⟨rfl, rfl⟩ | rfl
  · cases r with
    | cons r t =>
      cases t
      cases r
      exact .inl ⟨j, rfl, q⟩
  · cases r with
    | cons r t =>
      cases t with
      | cons r' t =>
        cases t
        cases r
        cases r'
        exact .inr ⟨i, j, rfl, q⟩
theorem lenOk_le {l : List Expr} (h : lenOk l = true) : l.length ≤ 2 := by
  match l, h with
  | [_], _ => simp
  | [_, _], _ => simp
theorem se_lrng {es : CEs} (hs : SEs G F k es) : SE G F k (.lrng es) := SE.of (fun {X e w} c h => by
  obtain ⟨p, p2, l, p3, p4, rfl, h1, h2, h3, h4⟩ := inv_lrng h
  have hm1 : X.mg "list" = none := c.g.blt _ (by simp [bltNames])
  have hm2 : X.mg "range" = none := c.g.blt _ (by simp [bltNames])
  refine PEimp (pe_listRg c.calm (isGl_of h1) hm1 (prg_A h4 (chkAs_plain h3) (isGl_of h2) hm2 (hs.p c h3))) fun σ H Q ⟨cs, Av, ρ, st, r, st', ok, cl, en, he, q⟩ => ?_
  simp only [evE] at he
  split at he
  · rename_i ds st1 e1
    split at he
    · rename_i z e2
      simp only [Option.some.injEq, Prod.mk.injEq] at he
      obtain ⟨rfl, rfl⟩ := he
      obtain ⟨i, j, hr, rfl, hd⟩ := rangeOf_12 e2 (by rw [chkAs_len h3 e1]; exact lenOk_le h4)
      refine ⟨cs, Av, ρ, st, ds, _, ok, cl, en, e1, fun vs H1 x1 c1 r1 => ?_⟩
      have ok1 := ok.ext x1 c1
      refine rps_range_in (Q := fun a b H1 => RgOk a b ∧ ∀ q, H1 q = none → Q (.ref q) (upd H1 q (.lst (rgV a b)))) r1 hd ⟨hr, fun p hp => ?_⟩
      have z : Ext [] H1 (upd H1 p (.lst (rgV i j))) := Ext.upd hp
      exact q _ _ (x1.trans z.all) (c1.ext ok1 z) (RpS.fresh (r := .o _) (lst_new ok1 hp (Rps.rng i _)) x1 ok1 c1 z)
    · cases he
  · cases he) (fun h => by obtain ⟨p, p2, l, p3, p4, rfl, _⟩ := inv_lrng h; exact ⟨rfl, rfl⟩)
theorem se_trng {es : CEs} (hs : SEs G F k es) : SE G F k (.trng es) := SE.of (fun {X e w} c h => by
  obtain ⟨p, p2, l, p3, p4, rfl, h1, h2, h3, h4⟩ := inv_trng h
  have hm1 : X.mg "tuple" = none := c.g.blt _ (by simp [bltNames])
  have hm2 : X.mg "range" = none := c.g.blt _ (by simp [bltNames])
  refine PEimp (pe_tupRgD c.calm (isGl_of h1) hm1 (prg_A h4 (chkAs_plain h3) (isGl_of h2) hm2 (hs.p c h3))) fun σ H Q ⟨cs, Av, ρ, st, r, st', ok, cl, en, he, q⟩ => ?_
  simp only [evE] at he
  split at he
  · rename_i ds st1 e1
    split at he
    · rename_i z e2
      simp only [Option.some.injEq, Prod.mk.injEq] at he
      obtain ⟨rfl, rfl⟩ := he
      obtain ⟨i, j, hr, rfl, hd⟩ := rangeOf_12 e2 (by rw [chkAs_len h3 e1]; exact lenOk_le h4)
      refine ⟨cs, Av, ρ, st, ds, _, ok, cl, en, e1, fun vs H1 x1 c1 r1 => ?_⟩
      have ok1 := ok.ext x1 c1
      refine rps_range_in (Q := fun a b H1 => RgOk a b ∧ nT Q H1 (rgV a b)) r1 hd ⟨hr, fun p o ho hp => ?_⟩
      have z : Ext [] H1 (upd H1 p (.frz o (.tup (rgV i j)))) := Ext.upd hp
      exact q _ _ (x1.trans z.all) (c1.ext ok1 z) (.vv (.tup (SqD.new ho) (Rps.rng i _)))
    · cases he
  · cases he) (fun h => by obtain ⟨p, p2, l, p3, p4, rfl, _⟩ := inv_trng h; exact ⟨rfl, rfl⟩)
end
end Ev

set_option Elab.async false
set_option linter.all false
set_option maxRecDepth 100000
set_option maxHeartbeats 4000000
/-! What a loop walks. -/
namespace Ev
open PySem PySem.Spec PyProof.Rows L2

def enumD (ds : List D) : List D := ds.zipIdx.map (fun p => .tuple [.int (p.2 : Nat), p.1])
def zipD (xs ys : List D) : List D := (xs.zip ys).map (fun p => .tuple [p.1, p.2])
/-- an iterator over these data -/
inductive Wk (K : PySem.W.Frag) (cs : List Addr) (Av P : Addr → Prop) (H : Hp) : Bool → It → List D → Prop
  | lst {a : Addr} {vs : List V} {ds : List D} : Na K P a vs → SqL K H a vs → Rps K cs Av H vs ds → Wk K cs Av P H false (Itl K a) ds
  | tup {a : Addr} {vs : List V} {ds : List D} : SqT K H a vs → Rps K cs Av H vs ds → Wk K cs Av P H false (Itt K a) ds
  | rng (lo : Int) (n : Nat) : Wk K cs Av P H false (Itr lo n) (rangeL lo n)
  | rngc (lo c : Int) (n : Nat) : Wk K cs Av P H false (Itc lo c n) (rangeStep lo c n)
  | enL {a : Addr} {vs : List V} {ds : List D} : Na K P a vs → SqL K H a vs → Rps K cs Av H vs ds → Wk K cs Av P H true (Ite K a) (enumD ds)
  | enT {a : Addr} {vs : List V} {ds : List D} : SqT K H a vs → Rps K cs Av H vs ds → Wk K cs Av P H true (IteT K a) (enumD ds)
  | zpL {a b : Addr} {vs us : List V} {ds es : List D} : Na K P a vs → Na K P b us → SqL K H a vs → SqL K H b us → Rps K cs Av H vs ds → Rps K cs Av H us es → Wk K cs Av P H true (Itz K a b) (zipD ds es)
  | zpT {a b : Addr} {vs us : List V} {ds es : List D} : SqT K H a vs → SqT K H b us → Rps K cs Av H vs ds → Rps K cs Av H us es → Wk K cs Av P H true (RZ.ItzT K a b) (zipD ds es)
section
variable {K : PySem.W.Frag} {cs : List Addr} {Av P : Addr → Prop} {H H' H1 H2 : Hp} {v : V} {vs : List V} {d : D} {ds : List D} {st : Sto} {J : It} {pr : Bool}
theorem Wk.p (a : Avd Av P H) (e : ExtP P H H') (w : Wk K cs Av P H pr J ds) : Wk K cs Av P H' pr J ds := by
  cases w with
  | lst n h r => exact .lst n (sqL_p h e n) (r.p a e)
  | tup h r => exact .tup (sqT_p a e h) (r.p a e)
  | rng lo n => exact .rng lo n
  | rngc lo c n => exact .rngc lo c n
  | enL n h r => exact .enL n (sqL_p h e n) (r.p a e)
  | enT h r => exact .enT (sqT_p a e h) (r.p a e)
  | zpL n n' h h' r r' => exact .zpL n n' (sqL_p h e n) (sqL_p h' e n') (r.p a e) (r'.p a e)
  | zpT h h' r r' => exact .zpT (sqT_p a e h) (sqT_p a e h') (r.p a e) (r'.p a e)
theorem enumD_len (ds : List D) : (enumD ds).length = ds.length := by simp [enumD]
theorem enumD_get {ds : List D} {i : Nat} {d : D} (h : ds[i]? = some d) : (enumD ds)[i]? = some (.tuple [.int (i : Nat), d]) := by
  simp [enumD, List.getElem?_zipIdx, h]
theorem zipD_len (xs ys : List D) : (zipD xs ys).length = min xs.length ys.length := by simp [zipD]
theorem zipD_get {xs ys : List D} {i : Nat} {x y : D} (h : xs[i]? = some x) (h' : ys[i]? = some y) : (zipD xs ys)[i]? = some (.tuple [x, y]) := by
  have e : (xs.zip ys)[i]? = some (x, y) := List.getElem?_zip_eq_some.mpr ⟨h, h'⟩
  simp [zipD, e]
theorem rangeL_get {lo : Int} {n i : Nat} (h : i < n) : (rangeL lo n)[i]? = some (.int (lo + (i : Nat))) := by
  simp [rangeL, h]
theorem rangeStep_get {lo c : Int} {n i : Nat} (h : i < n) : (rangeStep lo c n)[i]? = some (.int (lo + (i : Nat) * c)) := by
  simp [rangeStep, h]
theorem Rps.getLt (r : Rps K cs Av H vs ds) {i : Nat} (h : i < ds.length) : ∃ x d, vs[i]? = some x ∧ ds[i]? = some d ∧ Rp K cs Av H x d := by
  obtain ⟨v, h1, h2⟩ := r.get (List.getElem?_eq_getElem h)
  exact ⟨v, _, h1, List.getElem?_eq_getElem h, h2⟩
theorem Wk.go (w : Wk K cs Av P H pr J ds) {i : Nat} (h : i < ds.length) : J.go i H := by
  cases w with
  | lst n hs r => obtain ⟨x, d, h1, _⟩ := r.getLt h; exact ⟨_, x, hs, h1⟩
  | tup hs r => obtain ⟨x, d, h1, _⟩ := r.getLt h; exact ⟨_, x, hs, h1⟩
  | rng lo n => show i < n; simpa [rangeL] using h
  | rngc lo c n => show i < n; simpa [rangeStep] using h
  | enL n hs r => rw [enumD_len] at h; obtain ⟨x, d, h1, _⟩ := r.getLt h; exact ⟨_, x, hs, h1⟩
  | enT hs r => rw [enumD_len] at h; obtain ⟨x, d, h1, _⟩ := r.getLt h; exact ⟨_, x, hs, h1⟩
  | zpL n n' hs hs' r r' =>
    rw [zipD_len] at h
    obtain ⟨x, d, h1, _⟩ := r.getLt (Nat.lt_of_lt_of_le h (Nat.min_le_left _ _))
    obtain ⟨y, d', h1', _⟩ := r'.getLt (Nat.lt_of_lt_of_le h (Nat.min_le_right _ _))
    exact ⟨_, _, x, y, hs, hs', h1, h1'⟩
  | zpT hs hs' r r' =>
    rw [zipD_len] at h
    obtain ⟨x, d, h1, _⟩ := r.getLt (Nat.lt_of_lt_of_le h (Nat.min_le_left _ _))
    obtain ⟨y, d', h1', _⟩ := r'.getLt (Nat.lt_of_lt_of_le h (Nat.min_le_right _ _))
    exact ⟨_, _, x, y, hs, hs', h1, h1'⟩
theorem Wk.stop (w : Wk K cs Av P H pr J ds) : J.stop ds.length H := by
  cases w with
  | lst n hs r => exact ⟨_, hs, Nat.le_of_eq r.length⟩
  | tup hs r => exact ⟨_, hs, Nat.le_of_eq r.length⟩
  | rng lo n => show n ≤ _; simp [rangeL]
  | rngc lo c n => show n ≤ _; simp [rangeStep]
  | enL n hs r => rw [enumD_len]; exact ⟨_, hs, Nat.le_of_eq r.length⟩
  | enT hs r => rw [enumD_len]; exact ⟨_, hs, Nat.le_of_eq r.length⟩
  | zpL n n' hs hs' r r' =>
    rw [zipD_len]
    refine ⟨_, _, hs, hs', ?_⟩
    have h1 := r.length
    have h2 := r'.length
    omega
  | zpT hs hs' r r' =>
    rw [zipD_len]
    refine ⟨_, _, hs, hs', ?_⟩
    have h1 := r.length
    have h2 := r'.length
    omega
theorem Wk.yld (w : Wk K cs Av P H pr J ds) (ok : AvOk cs Av H) {i : Nat} {x : V} (h : i < ds.length) (y : J.yld i H x H') : ∃ d, ds[i]? = some d ∧ Ext [] H H' ∧ RpX K cs Av H' pr x d := by
  cases w with
  | lst n hs r =>
    obtain ⟨u, d, h1, h2, h3⟩ := r.getLt h
    obtain ⟨rfl, y⟩ := y
    have := y _ hs
    rw [h1] at this
    cases this
    exact ⟨d, h2, Ext.refl _ _, .inl h3⟩
  | tup hs r =>
    obtain ⟨u, d, h1, h2, h3⟩ := r.getLt h
    obtain ⟨rfl, y⟩ := y
    have := y _ hs
    rw [h1] at this
    cases this
    exact ⟨d, h2, Ext.refl _ _, .inl h3⟩
  | rng lo n =>
    obtain ⟨rfl, rfl⟩ := y
    exact ⟨_, rangeL_get (by simpa [rangeL] using h), Ext.refl _ _, .inl (.int _)⟩
  | rngc lo c n =>
    obtain ⟨rfl, rfl⟩ := y
    exact ⟨_, rangeStep_get (by simpa [rangeStep] using h), Ext.refl _ _, .inl (.int _)⟩
  | enL n hs r =>
    rw [enumD_len] at h
    obtain ⟨u, d, h1, h2, h3⟩ := r.getLt h
    obtain ⟨T, x, rfl, hT, rfl, y⟩ := y
    have := y _ hs
    rw [h1] at this
    cases this
    have z : Ext [] H (upd H T (.tup [.int (i : Nat), u])) := Ext.upd hT
    exact ⟨_, enumD_get h2, z, .inr ⟨rfl, _, _, _, rfl, rfl, SqT.of (upd_same ..), .cons (.int _) (.cons (h3.ext ok z.all) .nil)⟩⟩
  | enT hs r =>
    rw [enumD_len] at h
    obtain ⟨u, d, h1, h2, h3⟩ := r.getLt h
    obtain ⟨T, x, rfl, hT, rfl, y⟩ := y
    have := y _ hs
    rw [h1] at this
    cases this
    have z : Ext [] H (upd H T (.tup [.int (i : Nat), u])) := Ext.upd hT
    exact ⟨_, enumD_get h2, z, .inr ⟨rfl, _, _, _, rfl, rfl, SqT.of (upd_same ..), .cons (.int _) (.cons (h3.ext ok z.all) .nil)⟩⟩
  | zpL n n' hs hs' r r' =>
    rw [zipD_len] at h
    obtain ⟨u, d, h1, h2, h3⟩ := r.getLt (Nat.lt_of_lt_of_le h (Nat.min_le_left _ _))
    obtain ⟨u', d', h1', h2', h3'⟩ := r'.getLt (Nat.lt_of_lt_of_le h (Nat.min_le_right _ _))
    obtain ⟨T, x, x', rfl, hT, rfl, y, y'⟩ := y
    have e1 := y _ hs
    rw [h1] at e1
    cases e1
    have e2 := y' _ hs'
    rw [h1'] at e2
    cases e2
    have z : Ext [] H (upd H T (.tup [u, u'])) := Ext.upd hT
    exact ⟨_, zipD_get h2 h2', z, .inr ⟨rfl, _, _, _, rfl, rfl, SqT.of (upd_same ..), .cons (h3.ext ok z.all) (.cons (h3'.ext ok z.all) .nil)⟩⟩
  | zpT hs hs' r r' =>
    rw [zipD_len] at h
    obtain ⟨u, d, h1, h2, h3⟩ := r.getLt (Nat.lt_of_lt_of_le h (Nat.min_le_left _ _))
    obtain ⟨u', d', h1', h2', h3'⟩ := r'.getLt (Nat.lt_of_lt_of_le h (Nat.min_le_right _ _))
    obtain ⟨T, x, x', rfl, hT, rfl, y, y'⟩ := y
    have e1 := y _ hs
    rw [h1] at e1
    cases e1
    have e2 := y' _ hs'
    rw [h1'] at e2
    cases e2
    have z : Ext [] H (upd H T (.tup [u, u'])) := Ext.upd hT
    exact ⟨_, zipD_get h2 h2', z, .inr ⟨rfl, _, _, _, rfl, rfl, SqT.of (upd_same ..), .cons (h3.ext ok z.all) (.cons (h3'.ext ok z.all) .nil)⟩⟩
end
/-- the avoided addresses: the cells, or all that is owned -/
def avOf (w : Bool) (cs : List Addr) (Av : Addr → Prop) : Addr → Prop := fun a => if w = true then a ∈ cs else Av a
theorem avd_of {w : Bool} {cs : List Addr} {Av : Addr → Prop} {H : Hp} (ok : AvOk cs Av H) : Avd Av (avOf w cs Av) H := by
  unfold avOf
  cases w with
  | true => exact ⟨fun a h => ok.sub a (by simpa using h), fun a h => ok.lst a (ok.sub a (by simpa using h))⟩
  | false => exact ⟨fun a h => by simpa using h, fun a h => ok.lst a (by simpa using h)⟩
theorem Ext.av {w : Bool} {cs : List Addr} {Av : Addr → Prop} {H H' : Hp} (ok : AvOk cs Av H) (e : Ext cs H H') : ExtP (avOf w cs Av) H H' := e.p fun a h => by
  unfold avOf
  cases w with
  | true => simpa using h
  | false => simpa using ok.sub a h
/-- pairs are walked -/
def prI : CI → Bool
  | .enum _ => true
  | .zip _ _ => true
  | _ => false
def tI (K : PySem.W.Frag) (F : FT) (ci : CI) (w : Bool) : TI := fun σ H R => ∃ (cs : List Addr) (Av : Addr → Prop) (ρ : Rho) (st : Sto) (ds : List D) (st' : Sto),
  AvOk cs Av H ∧ Cl K cs Av H st ∧ En K cs Av H σ ρ ∧ evI F ci ρ st = some (ds, st') ∧ ∀ J H', Ext cs H H' → Cl K cs Av H' st' → Wk K cs Av (avOf w cs Av) H' (prI ci) J ds → R J H'
structure SI (G : Ga) (F : FT) (k : Nat) (ci : CI) : Prop where
  i : ∀ {X : Cx} {tg e : Expr} {w : Bool}, Cd G F k X → chkI G X.env.scope w ci tg e = true → PI X tg e (tI X.K F ci w)
theorem PIimp {X : Cx} {tg e : Expr} {t t' : TI} (h : PI X tg e t) (i : ∀ σ H R, t' σ H R → t σ H R) : PI X tg e t' := ⟨fun pins s σ H R I hw => h.run pins s σ H R I (i σ H R hw)⟩
section
variable {G : Ga} {F : FT} {k : Nat} {X : Cx} {e : Expr} {ce a b c : CE} {w : Bool}
theorem pi_or {X : Cx} {tg e : Expr} {t t' : TI} (h : PI X tg e t) (h' : PI X tg e t') : PI X tg e (fun σ H R => t σ H R ∨ t' σ H R) := ⟨fun pins s σ H R I hw => by
  rcases hw with hw | hw
  · exact h.run pins s σ H R I hw
  · exact h'.run pins s σ H R I hw⟩
/-- a list or a tuple, told when its value is there -/
def iSq (K : PySem.W.Frag) (tl : TE) : TI := fun σ H R => tl σ H fun x H1 => ∃ a, x = .ref a ∧ (((∃ xs, SqL K H1 a xs) ∧ R (Itl K a) H1) ∨ ((∃ xs, SqT K H1 a xs) ∧ R (Itt K a) H1))
theorem pi_sq {tg l : Expr} {tl : TE} (hl : PE X l tl) : PI X tg l (iSq X.K tl) := by
  refine ⟨fun pins s σ H R I h => ?_⟩
  refine thn (hl.run pins s σ H _ I h) fun v s1 ⟨x, H1, I1, r1, q1⟩ => ?_
  obtain ⟨a, e, ⟨⟨xs, hq⟩, q⟩ | ⟨⟨xs, hq⟩, q⟩⟩ := q1
  · subst e
    cases r1
    obtain ⟨its, rv, p, hz⟩ := I1.list hq
    refine wpAny_pyIter_list p.isList ?_
    refine ⟨s1.heap.objs.size, [s1.heap.objs.size], _, _, H1, rfl, I1.kept (t' := s1.toks) fun b o e => Heap.get?_push_of_some _ e, turn_list a _, ⟨_, Heap.get?_push_size _ rfl, rfl, rfl⟩, fun b hb => ?_, q⟩
    have e : b = s1.heap.objs.size := by simpa using hb
    subst e
    exact I1.fpOk (Nat.le_refl _) (I1.hok.fresh (Nat.le_refl _))
  · subst e
    cases r1
    obtain ⟨its, rv, p, hz⟩ := I1.tuple hq
    refine wpAny_pyIter_tuple (show s1.heap.IsTuple a its.toArray from p) ?_
    refine ⟨s1.heap.objs.size, [s1.heap.objs.size], _, _, H1, rfl, I1.kept (t' := s1.toks) fun b o e => Heap.get?_push_of_some _ e, turn_tuple a _, ⟨_, Heap.get?_push_size _ rfl, rfl, rfl⟩, fun b hb => ?_, q⟩
    have e : b = s1.heap.objs.size := by simpa using hb
    subst e
    exact I1.fpOk (Nat.le_refl _) (I1.hok.fresh (Nat.le_refl _))
/-- a value read for walking: strictly or weakly -/
theorem rd_lst {K : PySem.W.Frag} {cs : List Addr} {Av : Addr → Prop} {H : Hp} {v : V} {ds : List D} (ok : AvOk cs Av H) (h : if w = true then Rw K cs Av H v (.list ds) else Rp K cs Av H v (.list ds)) : ∃ a vs, v = .ref a ∧ Na K (avOf w cs Av) a vs ∧ SqL K H a vs ∧ Rps K cs Av H vs ds := by
  cases w with
  | true =>
    rcases h with h | ⟨a, vs, es, rfl, e, na, hs, r⟩
    · cases h with
      | lst na hs r => exact ⟨_, _, rfl, na.imp (fun n z => n (ok.sub _ (by simpa [avOf] using z))) id, hs, r⟩
    · cases e
      exact ⟨a, vs, rfl, na.imp (fun n z => n (by simpa [avOf] using z)) id, hs, r⟩
  | false =>
    cases h with
    | lst na hs r => exact ⟨_, _, rfl, na.imp (fun n z => n (by simpa [avOf] using z)) id, hs, r⟩
theorem rd_tup {K : PySem.W.Frag} {cs : List Addr} {Av : Addr → Prop} {H : Hp} {v : V} {ds : List D} (h : if w = true then Rw K cs Av H v (.tuple ds) else Rp K cs Av H v (.tuple ds)) : ∃ a vs, v = .ref a ∧ SqT K H a vs ∧ Rps K cs Av H vs ds := by
  have h : Rw K cs Av H v (.tuple ds) := by
    cases w with
    | true => exact h
    | false => exact .inl h
  obtain ⟨a, vs, e, hs, rs⟩ := h.tuple
  exact ⟨a, vs, e, hs.t, rs⟩
def tX (K : PySem.W.Frag) (F : FT) (ce : CE) (w : Bool) : TE := fun σ H Q => ∃ (cs : List Addr) (Av : Addr → Prop) (ρ : Rho) (st : Sto) (r : RV) (st' : Sto),
  AvOk cs Av H ∧ Cl K cs Av H st ∧ En K cs Av H σ ρ ∧ evE F ce ρ st = some (r, st') ∧ ∀ v H', Ext cs H H' → Cl K cs Av H' st' → (if w = true then Rw K cs Av H' v r.d else Rp K cs Av H' v r.d) → Q v H'
theorem SE.x (ha : SE G F k a) (c : Cd G F k X) (h : chkE G X.env.scope w a e = true) : PE X e (tX X.K F a w) := by
  cases w with
  | true => exact PEimp (ha.w c h) fun σ H Q ⟨cs, Av, ρ, st, r, st', ok, cl, en, he, q⟩ => ⟨cs, Av, ρ, st, r, st', ok, cl, en, he, fun v H' x c' r1 => q v H' x c' r1⟩
  | false => exact PEimp (ha.s c h) fun σ H Q ⟨cs, Av, ρ, st, r, st', ok, cl, en, he, q⟩ => ⟨cs, Av, ρ, st, r, st', ok, cl, en, he, fun v H' x c' r1 => q v H' x c' (r1.1.rp ok.there)⟩
theorem si_seq (ha : SE G F k a) : SI G F k (.seq a) := ⟨fun {X tg e w} c h => by
  have h : chkE G X.env.scope w a e = true := by simpa [chkI] using h
  refine PIimp (pi_sq (ha.x c h)) fun σ H R ⟨cs, Av, ρ, st, ds, st', ok, cl, en, he, q⟩ => ?_
  simp only [evI] at he
  split at he
  · rename_i x st1 e1
    refine ⟨cs, Av, ρ, st, x, st1, ok, cl, en, e1, fun v H1 x1 c1 r1 => ?_⟩
    have ok1 := ok.ext x1 c1
    split at he
    · rename_i ds' hd
      cases he
      rw [hd] at r1
      obtain ⟨a, vs, rfl, na, hs, rs⟩ := rd_lst ok1 r1
      exact ⟨a, rfl, .inl ⟨⟨vs, hs⟩, q _ H1 x1 c1 (.lst na hs rs)⟩⟩
    · rename_i ds' hd
      cases he
      rw [hd] at r1
      obtain ⟨a, vs, rfl, hs, rs⟩ := rd_tup r1
      exact ⟨a, rfl, .inr ⟨⟨vs, hs⟩, q _ H1 x1 c1 (.tup hs rs)⟩⟩
    · cases he
  · cases he⟩
theorem si_rng {es : CEs} (hs : SEs G F k es) : SI G F k (.rng es) := ⟨fun {X tg e w} c h => by
  cases e
  case Call g as ks p' =>
    cases g
    case Name x p =>
      match as, ks, h with
      | [], _, h => exact ff h
      | _ :: _, _ :: _, h => exact ff h
      | y :: l, [], h =>
        have h' : (x == ("range" : Str) && isGl X.env.scope x && chkAs G X.env.scope false es (y :: l)) = true := h
        simp only [Bool.and_eq_true] at h'
        obtain ⟨⟨h1, h2⟩, h3⟩ := h'
        obtain rfl := eq_of_beq h1
        have hm : X.mg "range" = none := c.g.blt _ (by simp [bltNames])
        have hpl := chkAs_plain h3
        have pa := hs.p c h3
        have ev : ∀ (ρ : Rho) (st : Sto) (ds : List D) (st' : Sto), evI F (.rng es) ρ st = some (ds, st') → ∃ as, evEs F es ρ st = some (as, st') ∧ rangeOf as = some ds ∧ as.length = (y :: l).length := fun ρ st ds st' he => by
          simp only [evI] at he
          split at he
          · rename_i as st1 e1
            split at he
            · rename_i z e2
              simp only [Option.some.injEq, Prod.mk.injEq] at he
              obtain ⟨rfl, rfl⟩ := he
              exact ⟨as, e1, e2, chkAs_len h3 e1⟩
            · cases he
          · cases he
        match l, hpl, pa, ev with
        | [], hpl, pa, ev =>
          simp only [List.all_cons, List.all_nil, Bool.and_true] at hpl
          refine PIimp (pi_range1 (isGl_of h2) hm pa (star_plain hpl [] _)) fun σ H R ⟨cs, Av, ρ, st, ds, st', ok, cl, en, he, q⟩ => ?_
          obtain ⟨as, e1, e2, hl⟩ := ev _ _ _ _ he
          refine ⟨cs, Av, ρ, st, as, st', ok, cl, en, e1, fun vs H1 x1 c1 r1 => ?_⟩
          obtain ⟨i, j, hr, rfl, hd⟩ := rangeOf_12 e2 (by simp [hl])
          rcases hd with ⟨rfl, rfl⟩ | rfl
          · cases r1 with
            | cons r t =>
              cases t
              cases r
              exact ⟨j, rfl, hr.2.2.1, hr.2.2.2.1, q _ H1 x1 c1 (by simpa using .rng 0 j.toNat)⟩
          · simp at hl
        | [z], hpl, pa, ev =>
          simp only [List.all_cons, List.all_nil, Bool.and_true, Bool.and_eq_true] at hpl
          refine PIimp (pi_range2 (isGl_of h2) hm pa (by rw [star_plain hpl.1, star_plain hpl.2]; rfl) (star_plain hpl.2 [] _)) fun σ H R ⟨cs, Av, ρ, st, ds, st', ok, cl, en, he, q⟩ => ?_
          obtain ⟨as, e1, e2, hl⟩ := ev _ _ _ _ he
          refine ⟨cs, Av, ρ, st, as, st', ok, cl, en, e1, fun vs H1 x1 c1 r1 => ?_⟩
          obtain ⟨i, j, hr, rfl, hd⟩ := rangeOf_12 e2 (by simp [hl])
          rcases hd with ⟨rfl, rfl⟩ | rfl
          · simp at hl
          · cases r1 with
            | cons r t =>
              cases t with
              | cons r' t =>
                cases t
                cases r
                cases r'
                exact ⟨i, j, rfl, ⟨hr.1, hr.2.1, hr.2.2.1, hr.2.2.2.1⟩, q _ H1 x1 c1 (.rng i _)⟩
        | [z, u], hpl, pa, ev =>
          simp only [List.all_cons, List.all_nil, Bool.and_true, Bool.and_eq_true] at hpl
          refine PIimp (pi_range3 (isGl_of h2) hm pa (star_plain hpl.1 _ _) (nostar_any (by simp [hpl.2]))) fun σ H R ⟨cs, Av, ρ, st, ds, st', ok, cl, en, he, q⟩ => ?_
          obtain ⟨as, e1, e2, hl⟩ := ev _ _ _ _ he
          refine ⟨cs, Av, ρ, st, as, st', ok, cl, en, e1, fun vs H1 x1 c1 r1 => ?_⟩
          unfold rangeOf at e2
          split at e2
          · simp at hl
          · simp at hl
          · rename_i i j cc
            split at e2
            · rename_i hc
              simp only [Bool.and_eq_true, decide_eq_true_eq] at hc
              cases e2
              cases r1 with
              | cons r t =>
                cases t with
                | cons r' t =>
                  cases t with
                  | cons r'' t =>
                    cases t
                    cases r
                    cases r'
                    cases r''
                    exact ⟨i, j, cc, _, rfl, ⟨hc.1.1.1, hc.1.1.2, hc.1.2, rangeSize_toNat i j cc⟩, q _ H1 x1 c1 (.rngc i cc _)⟩
            · cases e2
          · cases e2
        | z :: u :: t :: r, hpl, pa, ev =>
          refine ⟨fun pins s σ H R I ⟨cs, Av, ρ, st, ds, st', ok, cl, en, he, q⟩ => ?_⟩
          obtain ⟨as, e1, e2, hl⟩ := ev _ _ _ _ he
          unfold rangeOf at e2
          split at e2
          · simp at hl
          · simp at hl
          · simp at hl
          · cases e2
    all_goals exact ff h
  all_goals exact ff h⟩
theorem si_enum (ha : SE G F k a) : SI G F k (.enum a) := ⟨fun {X tg e w} c h => by
  cases tg
  case Tuple tl tk tp =>
    cases e
    case Call g as ks p' =>
      cases g
      case Name x p =>
        match as, ks, h with
        | [], _, h => exact ff h
        | _ :: _ :: _, _, h => exact ff h
        | [_], _ :: _, h => exact ff h
        | [y], [], h =>
          have h' : (x == ("enumerate" : Str) && isGl X.env.scope x && plainE y && chkE G X.env.scope w a y) = true := h
          simp only [Bool.and_eq_true] at h'
          obtain ⟨⟨⟨h1, h2⟩, h3⟩, h4⟩ := h'
          obtain rfl := eq_of_beq h1
          have hm : X.mg "enumerate" = none := c.g.blt _ (by simp [bltNames])
          refine PIimp (pi_en (isGl_of h2) hm (pa_cons (ha.x c h4) pa_nil (star_plain h3 [] _)) (star_plain h3 [] _)) fun σ H R ⟨cs, Av, ρ, st, ds, st', ok, cl, en, he, q⟩ => ?_
          simp only [evI] at he
          split at he
          · rename_i x st1 e1
            refine ⟨cs, Av, ρ, st, x, st1, ok, cl, en, e1, fun v H1 x1 c1 r1 => ?_⟩
            have ok1 := ok.ext x1 c1
            split at he
            · rename_i ds' hd
              cases he
              rw [hd] at r1
              obtain ⟨a, vs, rfl, na, hs, rs⟩ := rd_lst ok1 r1
              exact ⟨a, vs, rfl, .inl ⟨hs, q _ H1 x1 c1 (.enL na hs rs)⟩⟩
            · rename_i ds' hd
              cases he
              rw [hd] at r1
              obtain ⟨a, vs, rfl, hs, rs⟩ := rd_tup r1
              exact ⟨a, vs, rfl, .inr ⟨hs, q _ H1 x1 c1 (.enT hs rs)⟩⟩
            · cases he
          · cases he
      all_goals exact ff h
    all_goals exact ff h
  all_goals (cases e <;> exact ff h)⟩
theorem si_zip (ha : SE G F k a) (hb : SE G F k b) : SI G F k (.zip a b) := ⟨fun {X tg e w} c h => by
  cases tg
  case Tuple tl tk tp =>
    cases e
    case Call g as ks p' =>
      cases g
      case Name x p =>
        match as, ks, h with
        | [], _, h => exact ff h
        | [_], _, h => exact ff h
        | _ :: _ :: _ :: _, _, h => exact ff h
        | [_, _], _ :: _, h => exact ff h
        | [y, z], [], h =>
          have h' : (x == ("zip" : Str) && isGl X.env.scope x && plainE y && plainE z && chkE G X.env.scope w a y && chkE G X.env.scope w b z) = true := h
          simp only [Bool.and_eq_true] at h'
          obtain ⟨⟨⟨⟨⟨h1, h2⟩, h3⟩, h4⟩, h5⟩, h6⟩ := h'
          obtain rfl := eq_of_beq h1
          have hm : X.mg "zip" = none := c.g.blt _ (by simp [bltNames])
          refine PIimp (RZ.pi_zipA (isGl_of h2) hm (pa_cons (ha.x c h5) (pa_cons (hb.x c h6) pa_nil (star_plain h4 [] _)) (star_plain h3 [z] _)) (star_plain h3 [z] _) (nostar_any (by simp [h4]))) fun σ H R ⟨cs, Av, ρ, st, ds, st', ok, cl, en, he, q⟩ => ?_
          simp only [evI] at he
          split at he
          · rename_i x st1 e1
            split at he
            · rename_i y st2 e2
              refine ⟨cs, Av, ρ, st, x, st1, ok, cl, en, e1, fun v H1 x1 c1 r1 => ?_⟩
              have ok1 := ok.ext x1 c1
              refine ⟨cs, Av, ρ, st1, y, st2, ok1, c1, en.ext ok x1, e2, fun u H2 x2 c2 r2 => ?_⟩
              have ok2 := ok1.ext x2 c2
              have r1' : if w = true then Rw X.K cs Av H2 v x.d else Rp X.K cs Av H2 v x.d := by
                cases w with
                | true => exact Rw.ext ok1 x2 r1
                | false => exact Rp.ext ok1 x2 r1
              split at he
              · rename_i xs ys hx hy
                cases he
                rw [hx] at r1'
                rw [hy] at r2
                obtain ⟨a, vs, rfl, hs, rs⟩ := rd_tup r1'
                obtain ⟨b, us, rfl, hs', rs'⟩ := rd_tup r2
                exact ⟨a, b, vs, us, rfl, .inr ⟨hs, hs', q _ H2 (x1.trans x2) c2 (.zpT hs hs' rs rs')⟩⟩
              · rename_i xs ys hx hy
                cases he
                rw [hx] at r1'
                rw [hy] at r2
                obtain ⟨a, vs, rfl, na, hs, rs⟩ := rd_lst ok2 r1'
                obtain ⟨b, us, rfl, nb, hs', rs'⟩ := rd_lst ok2 r2
                exact ⟨a, b, vs, us, rfl, .inl ⟨hs, hs', q _ H2 (x1.trans x2) c2 (.zpL na nb hs hs' rs rs')⟩⟩
              · cases he
            · cases he
          · cases he
      all_goals exact ff h
    all_goals exact ff h
  all_goals (cases e <;> exact ff h)⟩
end
end Ev

set_option Elab.async false
set_option linter.all false
set_option maxRecDepth 100000
set_option maxHeartbeats 4000000
/-! Comprehensions, and all the expressions by induction. -/
namespace Ev
open PySem PySem.Spec PyProof.Rows L2

/-! ### targets -/
section
variable {K : PySem.W.Frag} {cs : List Addr} {Av : Addr → Prop} {H : Hp} {v : V} {vs : List V} {d : D} {ds : List D} {σ σ' : L2.St} {ρ ρ' : Rho}
theorem En.setV (en : En K cs Av H σ ρ) (i : Nat) (r : Rp K cs Av H v d) : En K cs Av H (σ.set i (some v)) (ρ.set i (some (.v d))) := by
  refine ⟨by simp [en.len], fun j => ?_⟩
  by_cases h : i = j
  · subst h
    by_cases hl : i < ρ.length
    · have hl' : i < σ.length := by rw [en.len]; exact hl
      rw [List.getElem?_set_self hl, List.getElem?_set_self hl']
      exact ⟨v, rfl, r⟩
    · rw [List.getElem?_eq_none (l := ρ.set i _) (by simpa using hl)]
      trivial
  · rw [List.getElem?_set_ne h, List.getElem?_set_ne h]
    exact en.at_ j
theorem En.wipe (en : En K cs Av H σ ρ) : ∀ own : List Nat, En K cs Av H (wipe σ own) (wipeE ρ own)
  | [] => en
  | i :: r => by
    have ih := En.wipe en r
    unfold L2.wipe wipeE
    refine ⟨by simp [ih.len], fun j => ?_⟩
    by_cases h : i = j
    · subst h
      by_cases hl : i < (wipeE ρ r).length
      · rw [List.getElem?_set_self hl]; trivial
      · rw [List.getElem?_eq_none (l := (wipeE ρ r).set i _) (by simpa using hl)]; trivial
    · rw [List.getElem?_set_ne h, List.getElem?_set_ne h]
      exact ih.at_ j
/-- two frames that differ only at these slots -/
structure Apart (is : List Nat) (σ σ' : L2.St) : Prop where
  len : σ'.length = σ.length
  at_ : ∀ j, j ∉ is → σ'[j]? = σ[j]?
theorem Apart.refl {is : List Nat} : Apart is σ σ := ⟨rfl, fun _ _ => rfl⟩
theorem Apart.trans {is js : List Nat} {σ2 : L2.St} (a : Apart is σ σ') (b : Apart js σ' σ2) : Apart (is ++ js) σ σ2 :=
  ⟨b.len.trans a.len, fun j h => by
    simp only [List.mem_append, not_or] at h
    exact (b.at_ j h.2).trans (a.at_ j h.1)⟩
theorem Apart.set (i : Nat) (o : Option V) : Apart [i] σ (σ.set i o) := ⟨by simp, fun j h => by rw [List.getElem?_set_ne (by simpa using fun e => h (by simp [e]))]⟩
theorem wipe_get {own : List Nat} {j : Nat} : ∀ {σ : L2.St}, (wipe σ own)[j]? = if j ∈ own ∧ j < σ.length then some none else σ[j]? := by
  induction own with
  | nil => intro σ; simp [L2.wipe]
  | cons i r ih =>
    intro σ
    unfold L2.wipe
    by_cases h : i = j
    · subst h
      by_cases hl : i < σ.length
      · rw [List.getElem?_set_self (by rw [wipe_length]; exact hl)]
        simp [hl]
      · rw [List.getElem?_eq_none (by simp [wipe_length]; omega)]
        simp [hl]
    · rw [List.getElem?_set_ne h, ih]
      have : j ∈ i :: r ↔ j ∈ r := by simp [show ¬ j = i from fun e => h e.symm]
      simp only [this]
theorem Apart.wipe {is own : List Nat} (a : Apart is (L2.wipe σ own) σ') (h : ∀ i ∈ is, i ∈ own) : L2.wipe σ' own = L2.wipe σ own := by
  apply List.ext_getElem?
  intro j
  rw [wipe_get, wipe_get]
  have hl : σ'.length = σ.length := by rw [a.len, wipe_length]
  rw [hl]
  by_cases hj : j ∈ own ∧ j < σ.length
  · rw [if_pos hj, if_pos hj]
  · rw [if_neg hj, if_neg hj]
    by_cases hm : j ∈ is
    · have hlt : ¬ j < σ.length := fun z => hj ⟨h j hm, z⟩
      rw [List.getElem?_eq_none (by omega), List.getElem?_eq_none (by omega)]
    · rw [a.at_ j hm, wipe_get, if_neg hj]
end
def isTp : Tg → Bool
  | .tp _ => true
  | .nm _ => false
def tG (K : PySem.W.Frag) (tg : Tg) : TG := fun v σ H Q => ∃ (cs : List Addr) (Av : Addr → Prop) (ρ : Rho) (d : D) (ρ' : Rho),
  En K cs Av H σ ρ ∧ RpX K cs Av H (isTp tg) v d ∧ bindTg tg d ρ = some ρ' ∧ ∀ σ', Apart (slotsOf tg) σ σ' → En K cs Av H σ' ρ' → Q σ' H
def tGs (K : PySem.W.Frag) (tg : Tgs) : TGs := fun vs σ H Q => ∃ (cs : List Addr) (Av : Addr → Prop) (ρ : Rho) (ds : List D) (ρ' : Rho),
  En K cs Av H σ ρ ∧ Rps K cs Av H vs ds ∧ bindTgs tg ds ρ = some ρ' ∧ ∀ σ', Apart (slotsOfs tg) σ σ' → En K cs Av H σ' ρ' → Q σ' H
theorem assignEach_cons {e : Expr} (h : noSt e = true) (es : List Expr) (env : Env) : assignEach (e :: es) env = (false, assign e env) :: assignEach es env := by
  cases e <;> first | rfl | exact ff h
theorem PGimp {X : Cx} {e : Expr} {t t' : TG} (h : PG X e t) (i : ∀ v σ H Q, t' v σ H Q → t v σ H Q) : PG X e t' := ⟨fun pins s σ H v u Q I r hw => h.run pins s σ H v u Q I r (i v σ H Q hw)⟩
theorem PGsimp {X : Cx} {e : List Expr} {t t' : TGs} (h : PGs X e t) (i : ∀ v σ H Q, t' v σ H Q → t v σ H Q) : PGs X e t' := ⟨fun pins s σ H v u Q I r hw => h.run pins s σ H v u Q I r (i v σ H Q hw)⟩
section
variable {G : Ga} {F : FT} {k : Nat} {X : Cx} {fp : Str → Bool}
mutual
theorem tg_ok (c : Cd G F k X) (hfn : ∀ x, fp x = true → X.fn x = true) : ∀ {tg : Tg} {e : Expr}, chkT G fp X.env.scope tg e = true → PG X e (tG X.K tg)
  | .nm i, e, h => by
    cases e
    case Name x p =>
      have h' : (nmIs G.N i x && (match X.env.scope.names.lookup x with | some .local => true | some .cell => fp x | _ => false)) = true := h
      simp only [Bool.and_eq_true] at h'
      obtain ⟨h1, h2⟩ := h'
      have hl : Loc X.env.scope x ∧ (X.fn x = true ∨ X.env.scope.names.lookup x = some .local) := by
        split at h2
        · rename_i e; exact ⟨.inl e, .inr e⟩
        · rename_i e; exact ⟨.inr e, .inl (hfn x h2)⟩
        · cases h2
      refine PGimp (pg_name (by rw [c.N]; exact c.nd) (by rw [c.N]; exact nmIs_of h1) hl.1 hl.2) fun v σ H Q ⟨cs, Av, ρ, d, ρ', en, r, hb, q⟩ => ?_
      simp only [bindTg] at hb
      cases hb
      exact q _ (Apart.set i _) (en.setV i (RpX.f r))
    all_goals exact ff h
  | .tp ts, e, h => by
    cases e
    case Tuple es kk p =>
      have h' : chkTs G fp X.env.scope ts es = true := h
      obtain ⟨h1, h2, h3⟩ := tgs_ok c hfn h'
      refine PGimp (pg_tup c.calm h1 h2 h3) fun v σ H Q ⟨cs, Av, ρ, d, ρ', en, r, hb, q⟩ => ?_
      cases d with
      | tuple ds =>
        simp only [bindTg] at hb
        obtain ⟨a, vs, rfl, hs, rs⟩ := r.tuple
        refine ⟨_, _, rfl, hs, ?_, cs, Av, ρ, ds, ρ', en, rs, hb, q⟩
        rw [rs.length]
        exact (tgs_len h' hb)
      | _ => simp [bindTg] at hb
    all_goals exact ff h
theorem tgs_ok (c : Cd G F k X) (hfn : ∀ x, fp x = true → X.fn x = true) : ∀ {tg : Tgs} {es : List Expr}, chkTs G fp X.env.scope tg es = true → PGs X es (tGs X.K tg) ∧ (assignEach es X.env).length = es.length ∧ (assignEach es X.env).findIdx? (·.1) = none
  | .nil, [], _ => by
    refine ⟨PGsimp pgs_nil fun vs σ H Q ⟨cs, Av, ρ, ds, ρ', en, r, hb, q⟩ => ?_, rfl, rfl⟩
    cases ds with
    | nil =>
      simp only [bindTgs] at hb
      cases hb
      cases r
      exact ⟨rfl, q σ Apart.refl en⟩
    | cons => simp [bindTgs] at hb
  | .nil, _ :: _, h => ff h
  | .cons _ _, [], h => ff h
  | .cons t r, e :: es, h => by
    have h' : (noSt e && (chkT G fp X.env.scope t e && chkTs G fp X.env.scope r es)) = true := h
    simp only [Bool.and_eq_true] at h'
    obtain ⟨h1, h2, h3⟩ := h'
    have ae := assignEach_cons h1 es X.env
    obtain ⟨g1, g2, g3⟩ := tgs_ok c hfn h3
    refine ⟨PGsimp (pgs_cons (tg_ok c hfn h2) g1 (by rw [ae]; rfl)) fun vs σ H Q ⟨cs, Av, ρ, ds, ρ', en, rr, hb, q⟩ => ?_, by rw [ae]; simp [g2], by rw [ae]; simp [List.findIdx?_cons, g3]⟩
    cases ds with
    | nil => simp [bindTgs] at hb
    | cons d ds =>
      simp only [bindTgs] at hb
      split at hb
      · rename_i ρ1 hb1
        cases rr with
        | cons r1 rs =>
          refine ⟨_, _, rfl, cs, Av, ρ, d, ρ1, en, .inl r1, hb1, fun σ1 a1 en1 => ?_⟩
          exact ⟨cs, Av, ρ1, ds, ρ', en1, rs, hb, fun σ2 a2 en2 => q σ2 (a1.trans a2) en2⟩
      · cases hb
theorem tgs_len {sc : Scope} : ∀ {ts : Tgs} {es : List Expr} {ds : List D} {ρ ρ' : Rho}, chkTs G fp sc ts es = true → bindTgs ts ds ρ = some ρ' → ds.length = es.length
  | .nil, [], ds, ρ, ρ', _, hb => by
    cases ds with
    | nil => rfl
    | cons => simp [bindTgs] at hb
  | .nil, _ :: _, _, _, _, h, _ => ff h
  | .cons _ _, [], _, _, _, h, _ => ff h
  | .cons t r, e :: es, ds, ρ, ρ', h, hb => by
    have h' : (noSt e && (chkT G fp sc t e && chkTs G fp sc r es)) = true := h
    simp only [Bool.and_eq_true] at h'
    cases ds with
    | nil => simp [bindTgs] at hb
    | cons d ds =>
      simp only [bindTgs] at hb
      split at hb
      · simp [tgs_len h'.2.2 hb]
      · cases hb
end
end

/-! ### tests -/
def tF (K : PySem.W.Frag) (F : FT) (fs : CEs) : TT := fun σ H Q => ∃ (cs : List Addr) (Av : Addr → Prop) (ρ : Rho) (st : Sto) (b : Bool) (st' : Sto),
  AvOk cs Av H ∧ Cl K cs Av H st ∧ En K cs Av H σ ρ ∧ evIfs F fs ρ st = some (b, st') ∧ ∀ H', Ext cs H H' → Cl K cs Av H' st' → Q b H'
structure SFs (G : Ga) (F : FT) (k : Nat) (ces : CEs) : Prop where
  f : ∀ {X : Cx} {l : List Expr}, Cd G F k X → chkFs G X.env.scope ces l = true → PTs X l (tF X.K F ces)
theorem tests_false (env : Env) : ∀ l : List Expr, (forIn l false fun c r => if r = true then do let ok ← isTrue c env (eval c env); pure (ForInStep.yield ok) else pure (ForInStep.yield r) : Sem Bool) = pure false
  | [] => rfl
  | c :: r => by
    rw [List.forIn_cons]
    simp only [Bool.false_eq_true, if_false, pure_bind]
    exact tests_false env r
section
variable {G : Ga} {F : FT} {k : Nat} {X : Cx} {a b c : CE}
theorem pts_cons {c : Expr} {l : List Expr} {t u : TT} (h : PT X c t) (hr : PTs X l u) : PTs X (c :: l) (fun σ H Q => t σ H fun b H1 => if b = true then u σ H1 Q else Q false H1) := by
  refine ⟨fun pins s σ H Q I hw => ?_⟩
  rw [List.forIn_cons]
  simp only [if_true]
  refine wpAny_bind (wpAny_bind (thn (h.run pins s σ H _ I hw) fun b s1 ⟨H1, I1, q1⟩ => wpAny_pure ?_))
  cases b with
  | true => exact hr.run pins s1 σ H1 Q I1 q1
  | false =>
    show wpAny _ _ (forIn l false _) _ _ _
    rw [tests_false]
    exact wpAny_pure ⟨H1, I1, q1⟩
theorem PTsimp {X : Cx} {e : List Expr} {t t' : TT} (h : PTs X e t) (i : ∀ σ H Q, t' σ H Q → t σ H Q) : PTs X e t' := ⟨fun pins s σ H Q I hw => h.run pins s σ H Q I (i σ H Q hw)⟩
theorem sfs_nil : SFs G F k .nil := ⟨fun {X l} c h => by
  cases l with
  | cons => exact ff h
  | nil =>
    refine PTsimp pts_nil fun σ H Q ⟨cs, Av, ρ, st, b, st', ok, cl, en, he, q⟩ => ?_
    simp only [evIfs] at he
    cases he
    exact q H (Ext.refl _ _) cl⟩
theorem sfs_cons {r : CEs} {s : Bool} (ha : SE G F k a) (hr : SFs G F k r) : SFs G F k (.cons s a r) := ⟨fun {X l} c h => by
  cases l with
  | nil => cases s <;> exact ff h
  | cons e es =>
    cases s with
    | true => exact ff h
    | false =>
      have h' : (chkE G X.env.scope false a e && chkFs G X.env.scope r es) = true := h
      simp only [Bool.and_eq_true] at h'
      refine PTsimp (pts_cons (ha.t c h'.1) (hr.f c h'.2)) fun σ H Q ⟨cs, Av, ρ, st, b, st', ok, cl, en, he, q⟩ => ?_
      simp only [evIfs] at he
      split at he
      · rename_i x st1 e1
        split at he
        · rename_i e2
          refine ⟨cs, Av, ρ, st, x, st1, true, ok, cl, en, e1, e2, fun H1 x1 c1 => ?_⟩
          show (if true = true then _ else _)
          rw [if_pos rfl]
          exact ⟨cs, Av, ρ, st1, b, st', ok.ext x1 c1, c1, en.ext ok x1, he, fun H2 x2 c2 => q H2 (x1.trans x2) c2⟩
        · rename_i e2
          cases he
          refine ⟨cs, Av, ρ, st, x, _, false, ok, cl, en, e1, e2, fun H1 x1 c1 => ?_⟩
          show (if false = true then _ else _)
          rw [if_neg (by decide)]
          exact q H1 x1 c1
        · cases he
      · cases he⟩

/-! ### comprehensions -/
theorem foldOk {e : Expr} (h : itOk e = true) (env : Env) (x : Value) : foldedSetIterable e env x = pure x := by
  cases e <;> first | rfl | exact ff h
theorem Cd.blk (c : Cd G F k X) (s : Shared) (H : Hp) (scope : Scope) (C : Addr) (cl : List (Str × Addr)) (fp : List Addr) : Cd G F k (X.blk s H scope (compEnvC scope cl C X.env) fp) :=
  ⟨c.N, c.calm, c.gd, c.rm, c.nd, c.g⟩
theorem tgIn_of {own : List Nat} {tg : Tg} (h : tgIn own tg = true) : ∀ i ∈ slotsOf tg, i ∈ own := fun i hi => by
  unfold tgIn at h
  rw [List.all_eq_true] at h
  simpa using h i hi
theorem own_map (N : List Str) (own : List Nat) : (chkOwn N own).map (·.2) = own := by
  unfold chkOwn
  rw [List.map_map]
  exact List.map_id' own
theorem mapM_cons {f : D → Sto → Option (List D × Sto)} {x : D} {r zs : List D} {st st' : Sto} (h : mapM f (x :: r) st = some (zs, st')) : ∃ ys us st1, f x st = some (ys, st1) ∧ mapM f r st1 = some (us, st') ∧ zs = ys ++ us := by
  simp only [mapM] at h
  split at h
  · rename_i ys st1 e1
    split at h
    · rename_i us st2 e2
      cases h
      exact ⟨ys, us, st1, e1, e2, rfl⟩
    · cases h
  · cases h
theorem drop_at {ds : List D} {i : Nat} {d : D} (h : ds[i]? = some d) : ds.drop i = d :: ds.drop (i + 1) := by
  obtain ⟨hl, e⟩ := List.getElem?_eq_some_iff.mp h
  rw [List.drop_eq_getElem_cons hl, e]
theorem inv_comp {sc : Scope} {e : Expr} {w : Bool} {own tg it ifs elt} (h : chkE G sc w (.comp own tg it ifs elt) e = true) : ∃ x t i fs scope p, e = .ListComp x [⟨t, i, fs, 0⟩] scope p ∧ blkC G.N sc scope (chkOwn G.N own) = true ∧ chkI G sc true it t i = true ∧ tgIn own tg = true ∧ chkT G (fun x => scope.names.lookup x == some .cell) (relS scope sc) tg t = true ∧ chkFs G (relS scope sc) ifs fs = true ∧ chkE G (relS scope sc) false elt x = true ∧ itOk i = true := by
  cases e
  case ListComp x gs scope p =>
    rcases gs with _ | ⟨⟨t, i, fs, n⟩, _ | ⟨g2, r⟩⟩
    · exact ff h
    · by_cases hn : n = 0
      case neg => exfalso; simp [chkE, hn] at h
      case pos =>
        subst hn
        have h' : (blkC G.N sc scope (chkOwn G.N own) && chkI G sc true it t i && tgIn own tg && chkT G (fun x => scope.names.lookup x == some .cell) (relS scope sc) tg t && chkFs G (relS scope sc) ifs fs && chkE G (relS scope sc) false elt x && itOk i) = true := h
        simp only [Bool.and_eq_true] at h'
        obtain ⟨⟨⟨⟨⟨⟨h1, h2⟩, h3⟩, h4⟩, h5⟩, h6⟩, h7⟩ := h'
        exact ⟨x, t, i, fs, scope, p, rfl, h1, h2, h3, h4, h5, h6, h7⟩
    · exfalso; simp [chkE] at h
  all_goals exact ff h
theorem inv_comp2 {sc : Scope} {e : Expr} {w : Bool} {own tg it ifs tg1 it1 ifs1 elt} (h : chkE G sc w (.comp2 own tg it ifs tg1 it1 ifs1 elt) e = true) : ∃ x t i fs t1 i1 fs1 scope p, e = .ListComp x [⟨t, i, fs, 0⟩, ⟨t1, i1, fs1, 0⟩] scope p ∧ blkC G.N sc scope (chkOwn G.N own) = true ∧ chkI G sc true it t i = true ∧ tgIn own tg = true ∧ chkT G (fun x => scope.names.lookup x == some .cell) (relS scope sc) tg t = true ∧ chkFs G (relS scope sc) ifs fs = true ∧
    chkI G (relS scope sc) false it1 t1 i1 = true ∧ tgIn own tg1 = true ∧ chkT G (fun x => scope.names.lookup x == some .cell) (relS scope sc) tg1 t1 = true ∧ chkFs G (relS scope sc) ifs1 fs1 = true ∧ chkE G (relS scope sc) false elt x = true ∧ itOk i = true ∧ itOk i1 = true := by
  cases e
  case ListComp x gs scope p =>
    rcases gs with _ | ⟨⟨t, i, fs, n⟩, _ | ⟨⟨t1, i1, fs1, n1⟩, _ | ⟨g2, r⟩⟩⟩
    · exact ff h
    · exfalso; simp [chkE] at h
    · by_cases hn : n = 0
      case neg => exfalso; simp [chkE, hn] at h
      case pos =>
        subst hn
        by_cases hn : n1 = 0
        case neg => exfalso; simp [chkE, hn] at h
        case pos =>
          subst hn
          have h' : (blkC G.N sc scope (chkOwn G.N own) && chkI G sc true it t i && tgIn own tg && chkT G (fun x => scope.names.lookup x == some .cell) (relS scope sc) tg t && chkFs G (relS scope sc) ifs fs && chkI G (relS scope sc) false it1 t1 i1 && tgIn own tg1 && chkT G (fun x => scope.names.lookup x == some .cell) (relS scope sc) tg1 t1 && chkFs G (relS scope sc) ifs1 fs1 && chkE G (relS scope sc) false elt x && itOk i && itOk i1) = true := h
          simp only [Bool.and_eq_true] at h'
          obtain ⟨⟨⟨⟨⟨⟨⟨⟨⟨⟨⟨h1, h2⟩, h3⟩, h4⟩, h5⟩, h6⟩, h7⟩, h8⟩, h9⟩, h10⟩, h11⟩, h12⟩ := h'
          exact ⟨x, t, i, fs, t1, i1, fs1, scope, p, rfl, h1, h2, h3, h4, h5, h6, h7, h8, h9, h10, h11, h12⟩
    · exfalso; simp [chkE] at h
  all_goals exact ff h

/-! ### the walk of a clause -/
/-- where a comprehension stands: its list at L -/
structure Now (K : PySem.W.Frag) (cs : List Addr) (Av : Addr → Prop) (E : Hp → Prop) (L : Addr) (H : Hp) (st : Sto) (as : List D) : Prop where
  ok : AvOk cs Av H
  ex : E H
  cl : Cl K cs Av H st
  acc : ∃ acc, H L = some (.lst acc) ∧ Rps K cs Av H acc as
structure EOk (cs : List Addr) (L : Addr) (E : Hp → Prop) : Prop where
  ext : ∀ H H', E H → Ext cs H H' → E H'
  put : ∀ H o, E H → E (upd H L o)
theorem EOk.base {cs : List Addr} {L : Addr} {H : Hp} (h : H L = none) : EOk cs L (Ext cs H) := ⟨fun _ _ a b => a.trans b, fun H1 o e b x q n => by
  rw [upd_ne (ne_of_none q h)]; exact e b x q n⟩
theorem lc_loop {K : PySem.W.Frag} {pr : Bool} {J : It} {ds : List D} {f : D → Sto → Option (List D × Sto)} {cs : List Addr} {Av : Addr → Prop} {E : Hp → Prop} {H0 : Hp} {L : Addr} {st0 stE : Sto} {as0 zs0 : List D} (BODY : V → Hp → (Hp → Prop) → Prop) (Fin : Hp → Prop)
    (wk : ∀ Hn, E Hn → ∃ P, Wk K cs Av P Hn pr J ds) (hm : mapM f ds st0 = some (zs0, stE)) (hl : (as0 ++ zs0).length ≤ maxLen) (s0 : Now K cs Av E L H0 st0 as0)
    (body : ∀ d st ys st' as Hn x H', f d st = some (ys, st') → (as ++ ys).length ≤ maxLen → Now K cs Av E L Hn st as → Ext [] Hn H' → RpX K cs Av H' pr x d → BODY x H' (fun Hn' => Now K cs Av E L Hn' st' (as ++ ys)))
    (fin : ∀ Hn, Now K cs Av E L Hn stE (as0 ++ zs0) → Fin Hn) :
    ∃ W : Nat → Nat → Hp → Prop, (∃ m, W 0 m H0) ∧ ∀ i m H, W i m H → (J.stop i H ∧ Fin H) ∨ (J.go i H ∧ ∃ Nx : Hp → Prop, (∀ H', Nx H' → ∃ m', m' < m ∧ W (i + 1) m' H') ∧ ∀ x H', J.yld i H x H' → BODY x H' Nx) := by
  refine ⟨fun i m Hn => i ≤ ds.length ∧ m = ds.length - i ∧ ∃ as st zs, Now K cs Av E L Hn st as ∧ mapM f (ds.drop i) st = some (zs, stE) ∧ as0 ++ zs0 = as ++ zs, ⟨ds.length, Nat.zero_le _, rfl, as0, st0, zs0, s0, hm, rfl⟩, ?_⟩
  rintro i m Hn ⟨hi, rfl, as, st, zs, nw, hmi, hz⟩
  obtain ⟨P, w⟩ := wk Hn nw.ex
  by_cases hlt : i < ds.length
  · have hd : ds[i]? = some ds[i] := List.getElem?_eq_getElem hlt
    rw [drop_at hd] at hmi
    obtain ⟨ys, us, st1, e1, e2, rfl⟩ := mapM_cons hmi
    refine .inr ⟨w.go hlt, fun Hn' => Now K cs Av E L Hn' st1 (as ++ ys), fun H' n' => ⟨ds.length - (i + 1), by omega, by omega, rfl, as ++ ys, st1, us, n', e2, by rw [hz, List.append_assoc]⟩, fun x H' y => ?_⟩
    obtain ⟨d, hd', ex, rp⟩ := w.yld nw.ok hlt y
    rw [hd] at hd'
    cases hd'
    refine body _ st ys st1 as Hn x H' e1 ?_ nw ex rp
    rw [hz] at hl
    simp only [List.length_append] at hl ⊢
    omega
  · have hi' : i = ds.length := by omega
    subst hi'
    rw [List.drop_length] at hmi
    cases hmi
    refine .inl ⟨w.stop, fin Hn ?_⟩
    rw [hz, List.append_nil]
    exact nw
theorem Rps.av' {K : PySem.W.Frag} {cs : List Addr} {Av Av' : Addr → Prop} {H : Hp} (h : ∀ a, Av' a → Av a ∨ H a = none) {vs : List V} {ds : List D} (r : Rps K cs Av H vs ds) : Rps K cs Av' H vs ds := r.av h
theorem SlotOk.av {K : PySem.W.Frag} {cs : List Addr} {Av Av' : Addr → Prop} {H : Hp} (h : ∀ a, Av' a → Av a ∨ H a = none) (h' : ∀ a, Av a → Av' a) {x : Option (Option V)} {y : Option (Option RV)} (s : SlotOk K cs Av H x y) : SlotOk K cs Av' H x y := by
  match y, s with
  | none, _ => trivial
  | some none, _ => trivial
  | some (some (.v d)), ⟨x, h1, h2⟩ => exact ⟨x, h1, h2.av h⟩
  | some (some (.o ds)), ⟨a, vs, h1, h2, h3, h4, h5⟩ => exact ⟨a, vs, h1, h' a h2, h3, h4, h5.av h⟩
theorem En.av {K : PySem.W.Frag} {cs : List Addr} {Av Av' : Addr → Prop} {H : Hp} {σ : L2.St} {ρ : Rho} (en : En K cs Av H σ ρ) (h : ∀ a, Av' a → Av a ∨ H a = none) (h' : ∀ a, Av a → Av' a) : En K cs Av' H σ ρ := ⟨en.len, fun i => (en.at_ i).av h h'⟩
theorem Cl.av {K : PySem.W.Frag} {cs : List Addr} {Av Av' : Addr → Prop} {H : Hp} {st : Sto} (cl : Cl K cs Av H st) (h : ∀ a, Av' a → Av a ∨ H a = none) : Cl K cs Av' H st := ⟨cl.len, cl.nd, fun n a ds h1 h2 => by
  obtain ⟨vs, e, r⟩ := cl.at_ n a ds h1 h2
  exact ⟨vs, e, r.av h⟩⟩
theorem Wk.av {K : PySem.W.Frag} {cs : List Addr} {Av Av' P : Addr → Prop} {H : Hp} {pr : Bool} {J : It} {ds : List D} (w : Wk K cs Av P H pr J ds) (h : ∀ a, Av' a → Av a ∨ H a = none) : Wk K cs Av' P H pr J ds := by
  cases w with
  | lst n hs r => exact .lst n hs (r.av h)
  | tup hs r => exact .tup hs (r.av h)
  | rng lo n => exact .rng lo n
  | rngc lo c n => exact .rngc lo c n
  | enL n hs r => exact .enL n hs (r.av h)
  | enT hs r => exact .enT hs (r.av h)
  | zpL n n' hs hs' r r' => exact .zpL n n' hs hs' (r.av h) (r'.av h)
  | zpT hs hs' r r' => exact .zpT hs hs' (r.av h) (r'.av h)
theorem SlotOk.p {K : PySem.W.Frag} {cs : List Addr} {Av P : Addr → Prop} {H H' : Hp} (a : Avd Av P H) (e : ExtP P H H') {x : Option (Option V)} {y : Option (Option RV)} (hp : ∀ b, P b → b ∈ cs) (s : SlotOk K cs Av H x y) : SlotOk K cs Av H' x y := by
  match y, s with
  | none, _ => trivial
  | some none, _ => trivial
  | some (some (.v d)), ⟨x, h1, h2⟩ => exact ⟨x, h1, h2.p a e⟩
  | some (some (.o ds)), ⟨b, vs, h1, h2, h3, h4, h5⟩ => exact ⟨b, vs, h1, h2, h3, e b _ h4 (fun z => h3 (hp b z)), h5.p a e⟩
theorem avOf_t {cs : List Addr} {Av Av' : Addr → Prop} : avOf true cs Av = avOf true cs Av' := by unfold avOf; simp
/-- the start of a comprehension: its list is one more that is owned -/
theorem now_start {K : PySem.W.Frag} {cs : List Addr} {Av : Addr → Prop} {H : Hp} {st : Sto} {σ : L2.St} {ρ : Rho} {L : Addr} {pr : Bool} {J : It} {ds : List D} (ok : AvOk cs Av H) (cl : Cl K cs Av H st) (en : En K cs Av H σ ρ) (wk : Wk K cs Av (avOf true cs Av) H pr J ds) (hL : H L = none) :
    ∃ Av' : Addr → Prop, Av' L ∧ L ∉ cs ∧ (∀ a, Av a → Av' a) ∧ Now K cs Av' (Ext cs H) L (upd H L (.lst [])) st [] ∧ ∀ Hn, Ext cs H Hn → En K cs Av' Hn σ ρ ∧ Wk K cs Av' (avOf true cs Av') Hn pr J ds := by
  have nL : L ∉ cs := fun z => by
    obtain ⟨xs, q⟩ := ok.lst L (ok.sub L z)
    rw [hL] at q; cases q
  let Av' : Addr → Prop := fun a => Av a ∨ a = L
  have hav : ∀ a, Av' a → Av a ∨ H a = none := fun a h => h.imp id fun e => by rw [e]; exact hL
  have ap : Avd Av' (avOf true cs Av) H := ⟨fun a h => .inl (ok.sub a (by simpa [avOf] using h)), fun a h => ok.lst a (ok.sub a (by simpa [avOf] using h))⟩
  have z : Ext [] H (upd H L (.lst [])) := Ext.upd hL
  have zc : Ext cs H (upd H L (.lst [])) := z.all
  have toP : ∀ {Hn}, Ext cs H Hn → ExtP (avOf true cs Av) H Hn := fun e => e.p fun a h => by simpa [avOf] using h
  have cl' := cl.av hav
  refine ⟨Av', .inr rfl, nL, fun a h => .inl h, ⟨⟨fun a h => .inl (ok.sub a h), fun a h => ?_⟩, zc, ⟨cl'.len, cl'.nd, fun n a ds h1 h2 => ?_⟩, [], upd_same .., .nil⟩, fun Hn ex => ⟨⟨en.len, fun i => ((en.at_ i).av hav (fun a h => .inl h)).p ap (toP ex) (fun b h => by simpa [avOf] using h)⟩, ?_⟩⟩
  · rcases h with h | rfl
    · obtain ⟨xs, q⟩ := ok.lst a h
      exact ⟨xs, z a _ q (by simp)⟩
    · exact ⟨[], upd_same ..⟩
  · obtain ⟨vs, e, r⟩ := cl'.at_ n a ds h1 h2
    exact ⟨vs, z a _ e (by simp), r.p ap (toP zc)⟩
  · rw [avOf_t (Av := Av') (Av' := Av)]
    exact (wk.av hav).p ap (toP ex)
/-- another heap in which the cells stand so -/
theorem Now.next {K : PySem.W.Frag} {cs : List Addr} {Av : Addr → Prop} {E : Hp → Prop} {H H' : Hp} {L : Addr} {st st' : Sto} {as : List D} (ek : EOk cs L E) (n : Now K cs Av E L H st as) (nL : L ∉ cs) (ex : Ext cs H H') (cl : Cl K cs Av H' st') : Now K cs Av E L H' st' as := by
  obtain ⟨acc, h1, h2⟩ := n.acc
  exact ⟨n.ok.ext ex cl, ek.ext _ _ n.ex ex, cl, acc, ex L _ h1 nL, h2.ext n.ok ex⟩
/-- an item goes into the list -/
theorem Now.put {K : PySem.W.Frag} {cs : List Addr} {Av : Addr → Prop} {E : Hp → Prop} {H : Hp} {L : Addr} {st : Sto} {as : List D} {y : V} {d : D} (ek : EOk cs L E) (n : Now K cs Av E L H st as) (nL : L ∉ cs) (aL : Av L) (r : Rp K cs Av H y d) (hl : (as ++ [d]).length ≤ maxLen) :
    ∃ acc, H L = some (.lst acc) ∧ acc.length < sizeLine ∧ Now K cs Av E L (upd H L (.lst (acc ++ [y]))) st (as ++ [d]) := by
  obtain ⟨acc, h1, h2⟩ := n.acc
  have hlt : acc.length < sizeLine := by
    have := maxLen_le
    simp at hl
    rw [h2.length]
    omega
  have ap : Avd Av (· = L) H := ⟨fun a h => by rw [h]; exact aL, fun a h => by rw [h]; exact ⟨acc, h1⟩⟩
  have ex : ExtP (· = L) H (upd H L (.lst (acc ++ [y]))) := fun b o e ne => by rw [upd_ne ne]; exact e
  refine ⟨acc, h1, hlt, ⟨n.ok.sub, fun a h => ?_⟩, ek.put _ _ n.ex, ⟨n.cl.len, n.cl.nd, fun i a ds e1 e2 => ?_⟩, acc ++ [y], upd_same .., (h2.p ap ex).append (.cons (r.p ap ex) .nil)⟩
  · by_cases e : a = L
    · subst e; exact ⟨_, upd_same ..⟩
    · rw [upd_ne e]; exact n.ok.lst a h
  · obtain ⟨vs, q1, q2⟩ := n.cl.at_ i a ds e1 e2
    have ne : a ≠ L := fun z => by
      subst z
      exact nL (List.mem_of_getElem? e1)
    exact ⟨vs, by rw [upd_ne ne]; exact q1, q2.p ap ex⟩
theorem mapM_len {f : D → Sto → Option (List D × Sto)} : ∀ {ds zs : List D} {st st' : Sto}, mapM f ds st = some (zs, st') → True := fun _ => trivial
theorem pr_tp {G : Ga} {sc sc' : Scope} {fp : Str → Bool} {w : Bool} {it : CI} {tg : Tg} {t i : Expr} (h : chkI G sc w it t i = true) (h' : chkT G fp sc' tg t = true) (hp : prI it = true) : isTp tg = true := by
  cases tg with
  | tp ts => rfl
  | nm j =>
    cases t with
    | Name x p => cases it <;> first | (cases hp; done) | (simp [chkI] at h)
    | _ => exact ff h'
theorem comp_imp {K : PySem.W.Frag} {own : List Nat} {tg : Tg} {it : CI} {ifs : CEs} {elt : CE} (h3 : tgIn own tg = true) (hpr : prI it = true → isTp tg = true) {σ : L2.St} {H : Hp} {Q : VK} (h : tS K F (.comp own tg it ifs elt) σ H Q) :
    tLc (tI K F it true) (tG K tg) (tF K F ifs) (tS K F elt) own σ H Q := by
  obtain ⟨cs, Av, ρ, st, r, st', ok, cl, en, hev, q⟩ := h
  simp only [evE] at hev
  split at hev
  · rename_i ds st1 e1
    split at hev
    · rename_i ys st2 e2
      split at hev
      · rename_i hlen
        simp only [Option.some.injEq, Prod.mk.injEq] at hev
        obtain ⟨rfl, rfl⟩ := hev
        refine ⟨cs, Av, ρ, st, ds, st1, ok, cl, en, e1, fun J H1 x1 c1 wk => fun L hL => ?_⟩
        have ok1 := ok.ext x1 c1
        have en1 := en.ext ok x1
        obtain ⟨Av', aL, nL, hAv, nw0, later⟩ := now_start ok1 c1 en1 wk hL
        have ek : EOk cs L (Ext cs H1) := EOk.base hL
        have hHL : H L = none := by
          cases q : H L with
          | none => rfl
          | some o => have := x1 L o q nL; rw [hL] at this; cases this
        refine lc_loop (fun x H' Nx => tG K tg x (wipe σ own) H' fun σ2 H2 => wipe σ2 own = wipe σ own ∧ tF K F ifs σ2 H2 fun b H3 =>
          if b = true then tS K F elt σ2 H3 fun y H4 => ∃ acc, H4 L = some (.lst acc) ∧ acc.length < sizeLine ∧ Nx (upd H4 L (.lst (acc ++ [y]))) else Nx H3) _ (fun Hn ex => ⟨_, (later Hn ex).2⟩) e2 (by simpa using hlen) nw0 (fun d sti ys1 st1' as Hn x H2 hf hl nw ex rp => ?_) (fun Hn nw => ?_)
        · have nw2 : Now K cs Av' (Ext cs H1) L H2 sti as := nw.next ek nL ex.all (nw.cl.ext nw.ok ex)
          split at hf
          · rename_i ρ1 hb
            refine ⟨cs, Av', wipeE ρ own, d, ρ1, ((later H2 nw2.ex).1).wipe own, rp.to hpr, hb, fun σ2 ap en2 => ⟨ap.wipe (tgIn_of h3), ?_⟩⟩
            split at hf
            · rename_i st3 hif
              refine ⟨cs, Av', ρ1, sti, true, st3, nw2.ok, nw2.cl, en2, hif, fun H3 x3 c3 => ?_⟩
              have nw3 := nw2.next ek nL x3 c3
              dsimp only
              rw [if_pos rfl]
              split at hf
              · rename_i y st4 hy
                cases hf
                refine ⟨cs, Av', ρ1, st3, y, _, nw3.ok, nw3.cl, en2.ext nw2.ok x3, hy, fun v H4 x4 c4 r4 => ?_⟩
                have nw4 := nw3.next ek nL x4 c4
                exact nw4.put ek nL aL (r4.1.rp nw3.ok.there) hl
              · cases hf
            · rename_i st3 hif
              cases hf
              refine ⟨cs, Av', ρ1, sti, false, _, nw2.ok, nw2.cl, en2, hif, fun H3 x3 c3 => ?_⟩
              dsimp only
              rw [if_neg (by decide), List.append_nil]
              exact nw2.next ek nL x3 c3
            · cases hf
          · cases hf
        · obtain ⟨acc, ha, rs⟩ := nw.acc
          have hA : ∀ a, Ev.add Av L a → Av' a ∨ Hn a = none := fun a h => .inl (h.elim (hAv a) fun z => by rw [z]; exact aL)
          exact q _ Hn (x1.trans nw.ex) (nw.cl.av fun a h => .inl (hAv a h)) ⟨⟨L, acc, rfl, hHL, ha, rs.av hA⟩, fun a ds h1 _ => by cases h1; exact nw.cl.av hA⟩
      · cases hev
    · cases hev
  · cases hev
theorem se_comp {own : List Nat} {tg : Tg} {it : CI} {ifs : CEs} {elt : CE} (hi : SI G F k it) (hf : SFs G F k ifs) (he : SE G F k elt) : SE G F k (.comp own tg it ifs elt) := SE.of (fun {X e w} c h => by
  obtain ⟨x, t, i, fs, scope, p, rfl, h1, h2, h3, h4, h5, h6, h7⟩ := inv_comp h
  have hblk := blkOk_by (by rw [c.N]; exact h1 : blkC X.N X.env.scope scope (chkOwn G.N own) = true)
  refine PEimp (pe_lc (own := chkOwn G.N own) c.calm (by rw [c.N]; exact c.nd) (hi.i c h2) hblk (g := tG X.K tg) (tt := tF X.K F ifs) (te := tS X.K F elt)
    (fun s H C cl fp => tg_ok (fp := fun x => scope.names.lookup x == some .cell) (c.blk s H scope C cl fp) (fun x hx => hx) h4) (fun s H C cl fp => hf.f (c.blk s H scope C cl fp) h5) (fun s H C cl fp => he.s (c.blk s H scope C cl fp) h6) (foldOk h7 _)) fun σ H Q h' => by rw [own_map]; exact comp_imp h3 (pr_tp h2 h4) h') (fun h => by obtain ⟨x, t, i, fs, scope, p, rfl, _⟩ := inv_comp h; exact ⟨rfl, rfl⟩)
/-- no slot owns a list -/
def NoO (ρ : Rho) : Prop := ∀ (i : Nat) (ds : List D), ρ[i]? ≠ some (some (RV.o ds))
theorem NoO.hide (ρ : Rho) : NoO (hideO ρ) := fun i ds e => by
  unfold hideO at e
  rw [List.getElem?_map] at e
  match h : ρ[i]?, e with
  | some none, e => simp [noOwn] at e
  | some (some (.o _)), e => simp [noOwn] at e
  | some (some (.v _)), e => simp [noOwn] at e
theorem NoO.set {ρ : Rho} (h : NoO ρ) (i : Nat) (o : Option RV) (ho : ∀ ds : List D, o ≠ some (RV.o ds)) : NoO (List.set ρ i o) := fun j ds e => by
  by_cases hj : i = j
  · subst hj
    by_cases hl : i < ρ.length
    · rw [List.getElem?_set_self hl] at e
      exact ho ds (Option.some.inj e)
    · rw [List.getElem?_eq_none (by simpa using hl)] at e
      cases e
  · rw [List.getElem?_set_ne hj] at e
    exact h j ds e
theorem NoO.wipe {ρ : Rho} (h : NoO ρ) : ∀ own : List Nat, NoO (wipeE ρ own)
  | [] => h
  | i :: r => (NoO.wipe h r).set i none (fun _ z => nomatch z)
mutual
theorem NoO.bind {ρ ρ' : Rho} (h : NoO ρ) : ∀ {t : Tg} {d : D}, bindTg t d ρ = some ρ' → NoO ρ'
  | .nm i, d, e => by
    simp only [bindTg] at e
    cases e
    exact h.set i _ (fun _ z => nomatch z)
  | .tp ts, .tuple ds, e => NoO.binds h (by simpa only [bindTg] using e)
  | .tp ts, .none, e => by simp [bindTg] at e
  | .tp ts, .bool _, e => by simp [bindTg] at e
  | .tp ts, .int _, e => by simp [bindTg] at e
  | .tp ts, .str _, e => by simp [bindTg] at e
  | .tp ts, .list _, e => by simp [bindTg] at e
  | .tp ts, .dict _, e => by simp [bindTg] at e
theorem NoO.binds {ρ ρ' : Rho} (h : NoO ρ) : ∀ {ts : Tgs} {ds : List D}, bindTgs ts ds ρ = some ρ' → NoO ρ'
  | .nil, [], e => by simp only [bindTgs] at e; cases e; exact h
  | .nil, _ :: _, e => by simp [bindTgs] at e
  | .cons _ _, [], e => by simp [bindTgs] at e
  | .cons t r, d :: ds, e => by
    simp only [bindTgs] at e
    split at e
    · rename_i ρ1 h1
      exact NoO.binds (NoO.bind h h1) e
    · cases e
end
theorem En.hide {K : PySem.W.Frag} {cs : List Addr} {Av : Addr → Prop} {H : Hp} {σ : L2.St} {ρ : Rho} (en : En K cs Av H σ ρ) : En K cs Av H σ (hideO ρ) := ⟨by simp [hideO, en.len], fun i => by
  have := en.at_ i
  unfold hideO
  rw [List.getElem?_map]
  match h : ρ[i]? with
  | none => trivial
  | some none => trivial
  | some (some (.o _)) => trivial
  | some (some (.v d)) => rw [h] at this; exact this⟩
theorem comp2_imp {K : PySem.W.Frag} {own : List Nat} {tg tg1 : Tg} {it it1 : CI} {ifs ifs1 : CEs} {elt : CE} (h3 : tgIn own tg = true) (hpr : prI it = true → isTp tg = true) (hpr1 : prI it1 = true → isTp tg1 = true) {σ : L2.St} {H : Hp} {Q : VK} (h : tS K F (.comp2 own tg it ifs tg1 it1 ifs1 elt) σ H Q) :
    tLc2 (tI K F it true) (tG K tg) (tF K F ifs) (tI K F it1 false) (tG K tg1) (tF K F ifs1) (tS K F elt) own (slotsOf tg1) σ H Q := by
  obtain ⟨cs, Av, ρ, st, r, st', ok, cl, en, hev, q⟩ := h
  simp only [evE] at hev
  split at hev
  · rename_i ds st1 e1
    split at hev
    · rename_i ys st2 e2
      split at hev
      · rename_i hlen
        simp only [Option.some.injEq, Prod.mk.injEq] at hev
        obtain ⟨rfl, rfl⟩ := hev
        refine ⟨cs, Av, ρ, st, ds, st1, ok, cl, en, e1, fun J H1 x1 c1 wk => fun L hL => ?_⟩
        have ok1 := ok.ext x1 c1
        have en1 := en.ext ok x1
        obtain ⟨Av', aL, nL, hAv, nw0, later⟩ := now_start ok1 c1 en1 wk hL
        have ek : EOk cs L (Ext cs H1) := EOk.base hL
        have hHL : H L = none := by
          cases q : H L with
          | none => rfl
          | some o => have := x1 L o q nL; rw [hL] at this; cases this
        refine lc_loop (fun x H' Nx => tG K tg x (wipe σ own) H' fun σ2 H2 => wipe σ2 own = wipe σ own ∧ tF K F ifs σ2 H2 fun b H3 =>
          if b = true then tI K F it1 false σ2 H3 fun J1 H4 => ∃ W1 : Nat → Nat → Hp → Prop, (∃ m, W1 0 m H4) ∧ ∀ j k H, W1 j k H →
            (J1.stop j H ∧ Nx H) ∨ (J1.go j H ∧ ∃ Nx1 : Hp → Prop, (∀ H', Nx1 H' → ∃ k', k' < k ∧ W1 (j + 1) k' H') ∧ ∀ x H', J1.yld j H x H' → tG K tg1 x (wipe σ2 (slotsOf tg1)) H' fun σ3 H5 => wipe σ3 (slotsOf tg1) = wipe σ2 (slotsOf tg1) ∧ tF K F ifs1 σ3 H5 fun b H6 =>
              if b = true then tS K F elt σ3 H6 fun y H7 => ∃ acc, H7 L = some (.lst acc) ∧ acc.length < sizeLine ∧ Nx1 (upd H7 L (.lst (acc ++ [y]))) else Nx1 H6)
          else Nx H3) _ (fun Hn ex => ⟨_, (later Hn ex).2⟩) e2 (by simpa using hlen) nw0 (fun d sti ys1 st1' as Hn x H2 hf hl nw ex rp => ?_) (fun Hn nw => ?_)
        · have nw2 : Now K cs Av' (Ext cs H1) L H2 sti as := nw.next ek nL ex.all (nw.cl.ext nw.ok ex)
          split at hf
          · rename_i ρ1 hb
            refine ⟨cs, Av', wipeE (hideO ρ) own, d, ρ1, ((later H2 nw2.ex).1).hide.wipe own, rp.to hpr, hb, fun σ2 ap en2 => ⟨ap.wipe (tgIn_of h3), ?_⟩⟩
            split at hf
            · rename_i st3 hif
              refine ⟨cs, Av', ρ1, sti, true, st3, nw2.ok, nw2.cl, en2, hif, fun H3 x3 c3 => ?_⟩
              have nw3 := nw2.next ek nL x3 c3
              have en3 := en2.ext nw2.ok x3
              dsimp only
              rw [if_pos rfl]
              split at hf
              · rename_i es st4 hes
                refine ⟨cs, Av', ρ1, st3, es, st4, nw3.ok, nw3.cl, en3, hes, fun J1 H4 x4 c4 wk4 => ?_⟩
                have nw4 := nw3.next ek nL x4 c4
                have en4 := en3.ext nw3.ok x4
                have av4 : Avd Av' (avOf false cs Av') H4 := avd_of nw4.ok
                have ek1 : EOk cs L (fun Hn => Ext cs H1 Hn ∧ ExtP Av' H4 Hn) := ⟨fun a b q e => ⟨q.1.trans e, q.2.trans (e.p fun z hz => nw4.ok.sub z hz)⟩, fun a o q => ⟨ek.put _ _ q.1, fun b x e n => by
                  rw [upd_ne (fun z => n (by rw [z]; exact aL))]; exact q.2 b x e n⟩⟩
                have nw4' : Now K cs Av' (fun Hn => Ext cs H1 Hn ∧ ExtP Av' H4 Hn) L H4 st4 as := ⟨nw4.ok, ⟨nw4.ex, ExtP.refl⟩, nw4.cl, nw4.acc⟩
                refine lc_loop (fun x H' Nx1 => tG K tg1 x (wipe σ2 (slotsOf tg1)) H' fun σ3 H5 => wipe σ3 (slotsOf tg1) = wipe σ2 (slotsOf tg1) ∧ tF K F ifs1 σ3 H5 fun b H6 =>
                  if b = true then tS K F elt σ3 H6 fun y H7 => ∃ acc, H7 L = some (.lst acc) ∧ acc.length < sizeLine ∧ Nx1 (upd H7 L (.lst (acc ++ [y]))) else Nx1 H6) _ (fun Hn ex => ⟨_, wk4.p av4 (by rw [show avOf false cs Av' = Av' from by unfold avOf; simp]; exact ex.2)⟩) hf hl nw4' (fun d5 st5 ys5 st5' as5 Hn5 x5 H5 hf5 hl5 nw5 ex5 rp5 => ?_) (fun Hn nw => ⟨nw.ok, nw.ex.1, nw.cl, nw.acc⟩)
                have nw6 := nw5.next ek1 nL ex5.all (nw5.cl.ext nw5.ok ex5)
                split at hf5
                · rename_i ρ2 hb5
                  have en6 : En K cs Av' H5 σ2 ρ1 := by
                    have nO := (NoO.wipe (NoO.hide ρ) own).bind hb
                    refine ⟨en4.len, fun i => ?_⟩
                    have := en4.at_ i
                    match hρ : ρ1[i]? with
                    | none => trivial
                    | some none => trivial
                    | some (some (.o ds)) => exact absurd hρ (nO i ds)
                    | some (some (.v dd)) =>
                      rw [hρ] at this
                      obtain ⟨x, e1, e2⟩ := this
                      exact ⟨x, e1, e2.p av4 (by rw [show avOf false cs Av' = Av' from by unfold avOf; simp]; exact nw6.ex.2)⟩
                  refine ⟨cs, Av', wipeE ρ1 (slotsOf tg1), d5, ρ2, en6.wipe _, rp5.to hpr1, hb5, fun σ3 ap5 en7 => ⟨ap5.wipe (fun i hi => hi), ?_⟩⟩
                  split at hf5
                  · rename_i st7 hif5
                    refine ⟨cs, Av', ρ2, st5, true, st7, nw6.ok, nw6.cl, en7, hif5, fun H7 x7 c7 => ?_⟩
                    have nw7 := nw6.next ek1 nL x7 c7
                    dsimp only
                    rw [if_pos rfl]
                    split at hf5
                    · rename_i y st8 hy
                      cases hf5
                      refine ⟨cs, Av', ρ2, st7, y, _, nw7.ok, nw7.cl, en7.ext nw6.ok x7, hy, fun v H8 x8 c8 r8 => ?_⟩
                      have nw8 := nw7.next ek1 nL x8 c8
                      exact nw8.put ek1 nL aL (r8.1.rp nw7.ok.there) hl5
                    · cases hf5
                  · rename_i st7 hif5
                    cases hf5
                    refine ⟨cs, Av', ρ2, st5, false, _, nw6.ok, nw6.cl, en7, hif5, fun H7 x7 c7 => ?_⟩
                    dsimp only
                    rw [if_neg (by decide), List.append_nil]
                    exact nw6.next ek1 nL x7 c7
                  · cases hf5
                · cases hf5
              · cases hf
            · rename_i st3 hif
              cases hf
              refine ⟨cs, Av', ρ1, sti, false, _, nw2.ok, nw2.cl, en2, hif, fun H3 x3 c3 => ?_⟩
              dsimp only
              rw [if_neg (by decide), List.append_nil]
              exact nw2.next ek nL x3 c3
            · cases hf
          · cases hf
        · obtain ⟨acc, ha, rs⟩ := nw.acc
          have hA : ∀ a, Ev.add Av L a → Av' a ∨ Hn a = none := fun a h => .inl (h.elim (hAv a) fun z => by rw [z]; exact aL)
          exact q _ Hn (x1.trans nw.ex) (nw.cl.av fun a h => .inl (hAv a h)) ⟨⟨L, acc, rfl, hHL, ha, rs.av hA⟩, fun a ds h1 _ => by cases h1; exact nw.cl.av hA⟩
      · cases hev
    · cases hev
  · cases hev
theorem se_comp2 {own : List Nat} {tg tg1 : Tg} {it it1 : CI} {ifs ifs1 : CEs} {elt : CE} (hi : SI G F k it) (hf : SFs G F k ifs) (hi1 : SI G F k it1) (hf1 : SFs G F k ifs1) (he : SE G F k elt) : SE G F k (.comp2 own tg it ifs tg1 it1 ifs1 elt) := SE.of (fun {X e w} c h => by
  obtain ⟨x, t, i, fs, t1, i1, fs1, scope, p, rfl, h1, h2, h3, h4, h5, h6, h7, h8, h9, h10, h11, h12⟩ := inv_comp2 h
  have hblk := blkOk_by (by rw [c.N]; exact h1 : blkC X.N X.env.scope scope (chkOwn G.N own) = true)
  refine PEimp (pe_lc2 (own := chkOwn G.N own) (vs1 := slotsOf tg1) c.calm (by rw [c.N]; exact c.nd) (hi.i c h2) hblk (by rw [own_map]; exact tgIn_of h7) (g := tG X.K tg) (tt := tF X.K F ifs) (wi1 := tI X.K F it1 false) (g1 := tG X.K tg1) (tt1 := tF X.K F ifs1) (te := tS X.K F elt)
    (fun s H C cl fp => tg_ok (fp := fun x => scope.names.lookup x == some .cell) (c.blk s H scope C cl fp) (fun x hx => hx) h4) (fun s H C cl fp => hf.f (c.blk s H scope C cl fp) h5)
    (fun s H C cl fp => hi1.i (c.blk s H scope C cl fp) h6) (fun s H C cl fp => tg_ok (fp := fun x => scope.names.lookup x == some .cell) (c.blk s H scope C cl fp) (fun x hx => hx) h8) (fun s H C cl fp => hf1.f (c.blk s H scope C cl fp) h9)
    (fun s H C cl fp => he.s (c.blk s H scope C cl fp) h10) (foldOk h11 _) (fun env => foldOk h12 env)) fun σ H Q h' => by rw [own_map]; exact comp2_imp h3 (pr_tp h2 h4) (pr_tp h6 h8) h') (fun h => by obtain ⟨x, t, i, fs, t1, i1, fs1, scope, p, rfl, _⟩ := inv_comp2 h; exact ⟨rfl, rfl⟩)
end
end Ev

set_option Elab.async false
set_option linter.all false
set_option maxRecDepth 100000
set_option maxHeartbeats 4000000
/-! sorted(set(..)) of a list of ints. -/
namespace Ev
open PySem PySem.Spec PyProof.Rows L2
/-- the empty set's object -/
abbrev set0 (w : World) : Obj := { cls := .type "set", dict := none, data := .set #[] 0 (.fresh 0 0 (!w.params.followText "set-order")) }
section
variable {P : Program} {w : World} {A : Around} {E : Value → Shared → Prop} {s : Shared}
set_option maxHeartbeats 8000000 in
theorem set_of_ints {l : Addr} {items : Array Value} (ns : List Int) {Q : Value → Shared → Prop} (hh : A.handled = none) (hl : s.heap.IsList l items) (hit : IntsAre items.toList ns) (hb : ns.length + 1 < scanBound)
    (h : ∀ (h' : Heap) (tk c : Nat), SetR w h' s.heap.objs.size (fun j => decide (j ∈ ns)) c → c ≤ ns.length → (∀ b o, s.heap.get? b = some o → h'.get? b = some o) → Q (.ref s.heap.objs.size) { s with heap := h', toks := tk }) :
    wpAny (model P w) A (call (.type "set") [.ref l]) Q E s := by
  have hisz : items.size = ns.length := (Array.length_toList (xs := items)).symm.trans (IntsAre.length hit)
  obtain ⟨c, tl, hmro⟩ := F.called_set.mro
  have hmade := F.called_set.made; have hsub := F.called_set.sub; have h1 := F.called_set.notType; have h2 := F.called_set.canCreate; have hct := F.typeCall_set_1 (.ref l)
  refine wpAny_call (codeAny_of_tree ?_); show wpAny _ _ (callAny (.type "set") _) _ _ _
  refine wpAny_pure ⟨Code.quiet_builtin _ (by decide +kernel), codeAny_builtin F.entry_type_call (by
    rw [Around.under_plain (weight_type_call_type "set" [.ref l] []) rfl]
    repeat (any_goals (first | assumption | wp_step))
    refine codeAny_mono (code_set_led1 (.ref l) (E := E) (Q₁ := fun obj s₁ => obj = .ref s.heap.objs.size ∧ s₁ = { s with heap := s.heap.push (set0 w) }) ⟨rfl, rfl⟩) fun r s₁ hr => ?_
    cases r with
    | error e => exact hr
    | ok fl =>
      cases fl with
      | ret obj =>
        obtain ⟨rfl, rfl⟩ := hr
        have hS : (s.heap.push (set0 w)).get? s.heap.objs.size = some (set0 w) := Heap.get?_push_size _ rfl
        have hT : Shared.TypeIs { s with heap := s.heap.push (set0 w) } (.ref s.heap.objs.size) "set" := ⟨_, hS, rfl⟩
        have hli := F.called_set.init.lookup; have hbi := F.called_set.init.bind (.ref s.heap.objs.size)
        repeat (any_goals (first | assumption | wp_step))
        refine codeAny_mono (codeAny_call_builtin (R := wants (fun r s₂ => r = .none ∧ ∃ h' tk c, s₂ = { s with heap := h', toks := tk } ∧ SetR w h' s.heap.objs.size (fun j => decide (j ∈ ns)) c ∧ c ≤ ns.length ∧ (∀ b o, s.heap.get? b = some o → h'.get? b = some o)) E) F.called_set.init.plain F.entry_set_init (check_set_init_1 hT ?_)) fun r₂ s₂ hr₂ => ?_
        · obtain ⟨⟨ocls, odict, odata, oslots⟩, hol, hcl, nl, hdl⟩ := hl
          simp only at hcl hdl
          subst hcl hdl
          have hol' : (s.heap.push (set0 w)).get? l = some { cls := .type "list", dict := odict, data := .seq items nl, slots := oslots } := Heap.get?_push_of_some _ hol
          have hsls := F.sub_list_set; have hslf := F.sub_list_frozenset
          have hne : (Value.type "list" == Value.type "dict") = false := by decide
          have hl1 : (s.heap.push (set0 w)).IsList l items := ⟨_, hol', rfl, nl, rfl⟩
          unfold Builtin.«set.__init__» noKeywords Builtin.Frozenset.updateFrom
          generalize hPI : pyIter = PI
          wp_walk
          subst hPI
          refine wpAny_pyIter_list hl1 (wpAny_bind (wpAny_runValue ?_))
          have hlS : l < s.heap.objs.size := Heap.lt_size hol
          have hz1 : (s.heap.push (set0 w)).objs.size = s.heap.objs.size + 1 := Heap.size_push ..
          have hval : ∀ (i : Nat) (v : Value), items[i]? = some v → ∃ k t, ns[i]? = some k ∧ v = .int k t := fun i v hv => by
            have hi : i < ns.length := hisz ▸ (Array.getElem?_eq_some_iff.mp hv).1
            obtain ⟨t, e⟩ := PyProof.Rows.IntsAre.int_at hit i v (Array.getElem?_toList ▸ hv)
            exact ⟨ns[i], t, List.getElem?_eq_getElem hi, by rw [e, List.getD_eq_getElem?_getD, List.getElem?_eq_getElem hi] <;> rfl⟩
          refine set_update_ints ((Walks.list (show A.in1.in1.in1.handled = none by simp [hh]) _ l (by rw [hz1]; exact Nat.ne_of_lt (Nat.lt_succ_of_lt hlS)) items).toS) s.heap.objs.size
            (by rw [hz1]; simp only [List.mem_cons, List.not_mem_nil, or_false, not_or]; exact ⟨Nat.ne_of_lt (Nat.lt_succ_self _), Nat.ne_of_gt hlS⟩) ns hisz hb hval (items.size - 0) 0 _ (by omega) (Nat.zero_le _)
            ⟨⟨_, Heap.get?_push_size _ rfl, rfl, rfl⟩, (hl1.push _)⟩ ⟨0, Nat.le_refl 0, setR_new_at (Heap.get?_push_of_some _ hS)⟩ fun s' c' hm hc' hS' => ?_
          obtain ⟨h', g2, d', tk', os'⟩ := s'
          have eg : g2 = s.gens := hm.gens; have ed : d' = s.drawn := hm.drawn; have eo : os' = s.os := hm.os
          subst eg ed eo
          show wpAny _ _ _ _ _ _; refine wpAny_pure ?_; show wpAny _ _ (ret Value.none) _ _ _
          refine wpAny_pure ⟨rfl, h', tk', c', rfl, hS', hisz ▸ hc', fun b o e => ?_⟩
          have hb0 : b < s.heap.objs.size := Heap.lt_size e
          exact hm.heap b o (by rw [hz1]; simp only [List.mem_cons, List.not_mem_nil, or_false, not_or]; exact ⟨Nat.ne_of_lt hb0, Nat.ne_of_lt (Nat.lt_succ_of_lt hb0)⟩) (Heap.get?_push_of_some _ (Heap.get?_push_of_some _ e))
        · cases r₂ with
          | error e => exact hr₂
          | ok fl₂ =>
            cases fl₂ with
            | ret r =>
              obtain ⟨rfl, h', tk, c', rfl, hS', hc', hk'⟩ := hr₂
              repeat (any_goals (first | assumption | wp_step))
              exact h _ _ _ hS' hc' hk'
            | _ => exact hr₂.elim
      | _ => exact hr.elim)⟩
end
section
variable {X : Cx}
def rSetI (K : PySem.W.Frag) (w : World) : List V → Hp → VK → Prop := fun xs H Q => ∃ (l : Addr) (ns : List Int), xs = [V.ref l] ∧ (SqL K H l (ns.map V.int) ∨ SqT K H l (ns.map V.int)) ∧ ns.length < 60 ∧
  ∀ p c, H p = none → c ≤ ns.length → Q (.ref p) (upd H p (SetO w p (fun j => decide (j ∈ ns)) c))
theorem cr_setI (hc : X.calm = true) : CallR X (.type "set") (rSetI X.K X.w) := by
  intro pins s σ H xs us Q I r h
  obtain ⟨l, ns, rfl, hl, hn, q⟩ := h
  rw [Vals.ref1 r]
  have hf : H s.heap.objs.size = none := I.hok.fresh (Nat.le_refl _)
  rcases hl with hl | hl
  · obtain ⟨its, rv, pl, hz⟩ := I.list hl
    refine set_of_ints (P := X.prog) (w := X.w) ns (I.ok.hd hc) pl.isList (by simpa using ints_of_vals rv) (by unfold scanBound; omega) fun h' tk c R hcn k => ?_
    exact ⟨.ref s.heap.objs.size, upd H s.heap.objs.size (SetO X.w s.heap.objs.size (fun j => decide (j ∈ ns)) c), I.laid (t' := tk) k (Nat.le_refl _) (setO_new R), rfl, q _ c hf hcn⟩
  obtain ⟨its, rv, pl, hz⟩ := I.tuple hl
  refine L2.call_set_tupI (P := X.prog) (w := X.w) ns (I.ok.hd hc) pl (by simpa using ints_of_vals rv) (by unfold scanBound; omega) fun h' tk c R hcn k => ?_
  exact ⟨.ref s.heap.objs.size, upd H s.heap.objs.size (SetO X.w s.heap.objs.size (fun j => decide (j ∈ ns)) c), I.laid (t' := tk) k (Nat.le_refl _) (setO_new R), rfl, q _ c hf hcn⟩
end
theorem uinsI_mem {x z : Int} : ∀ {l : List Int}, z ∈ uinsI x l ↔ z = x ∨ z ∈ l
  | [] => by simp [uinsI]
  | y :: r => by
    unfold uinsI
    split
    · simp
    · split
      · rename_i h; subst h; simp
      · simp only [List.mem_cons, uinsI_mem (l := r)]
        constructor
        · rintro (h | h | h) <;> simp [h]
        · rintro (h | h | h) <;> simp [h]
theorem uinsI_up {x : Int} : ∀ {l : List Int}, l.Pairwise (· < ·) → (uinsI x l).Pairwise (· < ·)
  | [], _ => by simp [uinsI]
  | y :: r, h => by
    have h' := h
    rw [List.pairwise_cons] at h
    unfold uinsI
    split
    · rename_i hxy
      exact List.pairwise_cons.mpr ⟨fun z hz => by
        rcases List.mem_cons.mp hz with rfl | hz
        · exact hxy
        · exact Int.lt_trans hxy (h.1 z hz), h'⟩
    · split
      · exact h'
      · rename_i h1 h2
        exact List.pairwise_cons.mpr ⟨fun z hz => by
          rcases uinsI_mem.mp hz with rfl | hz
          · omega
          · exact h.1 z hz, uinsI_up h.2⟩
theorem usort_mem {z : Int} : ∀ {l : List Int}, z ∈ usort l ↔ z ∈ l
  | [] => by simp [usort]
  | x :: r => by
    show z ∈ uinsI x (usort r) ↔ _
    rw [uinsI_mem, usort_mem (l := r), List.mem_cons]
theorem usort_up : ∀ (l : List Int), (usort l).Pairwise (· < ·)
  | [] => .nil
  | x :: r => uinsI_up (usort_up r)
theorem up_eq : ∀ {a b : List Int}, a.Pairwise (· < ·) → b.Pairwise (· < ·) → (∀ z, z ∈ a ↔ z ∈ b) → a = b
  | [], [], _, _, _ => rfl
  | [], y :: b, _, _, h => absurd ((h y).mpr (List.mem_cons_self ..)) (by simp)
  | x :: a, [], _, _, h => absurd ((h x).mp (List.mem_cons_self ..)) (by simp)
  | x :: a, y :: b, ha, hb, h => by
    rw [List.pairwise_cons] at ha hb
    have hxy : x = y := by
      rcases List.mem_cons.mp ((h x).mp (List.mem_cons_self ..)) with e | e
      · exact e
      rcases List.mem_cons.mp ((h y).mpr (List.mem_cons_self ..)) with e' | e'
      · exact e'.symm
      have := hb.1 x e
      have := ha.1 y e'
      omega
    subst hxy
    rw [up_eq ha.2 hb.2 fun z => ?_]
    constructor
    · intro hz
      rcases List.mem_cons.mp ((h z).mp (List.mem_cons_of_mem _ hz)) with e | e
      · subst e; exact absurd (ha.1 z hz) (by omega)
      · exact e
    · intro hz
      rcases List.mem_cons.mp ((h z).mpr (List.mem_cons_of_mem _ hz)) with e | e
      · subst e; exact absurd (hb.1 z hz) (by omega)
      · exact e
end Ev

set_option Elab.async false
set_option linter.all false
set_option maxRecDepth 100000
set_option maxHeartbeats 4000000
/-! Expressions: count, sorted(set(..)), displays of dicts. -/
namespace Ev
open PySem PySem.Spec PyProof.Rows L2
section
variable {G : Ga} {F : FT} {k : Nat} {X : Cx} {e : Expr} {ce a b c : CE} {w : Bool}
theorem few_one {e : Expr} {cp : Pos} (h : plainE e = true) : ((backTo cp (starEach [e] X.env)).all (fun x => !x.1) && (backToKw cp (keywordEach [] X.env)).all (fun x => x.1.isSome)
      && decide ([e].length + ([] : List Keyword).length + (if ([] : List Keyword).isEmpty then 0 else 1) < 30)) = true := by
  rw [star_plain h]; rfl
/-- o.m(e), o a tuple without a dict -/
def tBT (K : PySem.W.Frag) (r : V → List V → Hp → VK → Prop) (to : TE) (t : TA) : TE := fun σ H Q => to σ H fun x H1 => (∃ p xs, x = .ref p ∧ SqD K H1 p xs) ∧ t σ H1 fun xs H2 => r x xs H2 Q
theorem sqD_is {pins : List (Addr × Obj)} {σ : L2.St} {H : Hp} {s : Shared} {p : Addr} {xs : List V} (I : Inv X pins σ H s) (h : SqD X.K H p xs) : s.TypeIs (.ref p) "tuple" ∧ ∀ a, Value.ref p = .ref a → ∃ ob, s.heap.get? a = some ob ∧ ob.dict = none := by
  obtain ⟨its, _, pl, _⟩ := I.tuple h.t
  refine ⟨pl.typeIs, fun a e => ?_⟩
  cases e
  rcases h with ⟨o, h, hd⟩ | ⟨o, _, _, h, _, hd, _⟩
  · exact ⟨o, (I.hok p _ h).1, hd⟩
  · exact ⟨o, I.kIn _ _ h, hd⟩
theorem pe_bmT {o e : Expr} {es : List Expr} {to : TE} {t : TA} {name : Str} {apos cpos : Pos} {id : String} {r : V → List V → Hp → VK → Prop} (slot : Slot "tuple" name id) (hty : typeOf (.builtin id) = pure (.type "method_descriptor")) (hm : MtR X id r) (ho : PE X o to) (ha : PA X (e :: es) t)
    (hbase : attributeBase o name X.env (eval o X.env) = eval o X.env := by rfl)
    (hfew : ((backTo cpos (starEach (e :: es) X.env)).all (fun x => !x.1) && (backToKw cpos (keywordEach [] X.env)).all (fun x => x.1.isSome)
      && decide ((e :: es).length + ([] : List Keyword).length + (if ([] : List Keyword).isEmpty then 0 else 1) < 30)) = true := by rfl)
    (hline : (apos.endLine == cpos.line) = true := by rfl) (hs : starEach (e :: es) X.env = (false, eval e X.env) :: starEach es X.env := by rfl) (hplain : (backTo cpos (starEach es X.env)).any (·.1) = false := by rfl) :
    PE X (.Call (.Attribute o name apos) (e :: es) [] cpos) (tBT X.K r to t) := by
  refine ⟨fun pins s σ H Q I h => ?_⟩
  refine wpAny_Call_method_late hbase hfew hline rfl (thn (ho.run pins s σ H _ I h) fun v s1 ⟨x, H1, I1, r1, ⟨p, xs, ex, hd⟩, q1⟩ => ?_)
  subst ex
  obtain rfl : v = Value.ref p := r1
  obtain ⟨h1, h2⟩ := sqD_is I1 hd
  refine ⟨"tuple", id, PySem.F.plainAttrs_tuple, slot, hty, h1, h2, ?_⟩
  have hA := ha.run cpos pins s1 σ H1 _ I1 q1
  rw [hs] at hA ⊢
  refine Calls.callWith_builtin (by show (false || (backTo cpos (starEach es X.env)).any (·.1)) = false; rw [hplain] <;> rfl) (Calls.evalArgs_plain ?_)
  exact thn hA fun us s2 ⟨vs, H2, I2, r2, q2⟩ => hm pins s2 σ H2 (.ref p) vs _ us Q I2 rfl r2 q2
theorem pe_or2 {e : Expr} {t t' : TE} (h : PE X e t) (h' : PE X e t') : PE X e fun σ H Q => t σ H Q ∨ t' σ H Q := ⟨fun pins s σ H Q I hw => by
  rcases hw with hw | hw
  · exact h.run pins s σ H Q I hw
  · exact h'.run pins s σ H Q I hw⟩
def rCnt (K : PySem.W.Frag) : V → List V → Hp → VK → Prop := fun x xs H Q => ∃ cs Av d e z y, AvOk cs Av H ∧ Rw K cs Av H x d ∧ xs = [y] ∧ Rp K cs Av H y e ∧ cnt2 d e = some z ∧ (∃ ds, d = .list ds) ∧ ∀ v, Rp K cs Av H v z → Q v H
def rCntT (K : PySem.W.Frag) : V → List V → Hp → VK → Prop := fun x xs H Q => ∃ cs Av d e z y, AvOk cs Av H ∧ Rw K cs Av H x d ∧ xs = [y] ∧ Rp K cs Av H y e ∧ cnt2 d e = some z ∧ (∃ ds, d = .tuple ds) ∧ ∀ v, Rp K cs Av H v z → Q v H
theorem mt_cnt (hu : X.A.units + 100 < cLine) : MtR X "list.count" (rCnt X.K) := by
  intro pins s σ H x xs v us Q I rx rs h
  obtain ⟨cs, Av, d, e, z, y, ok, hx, rfl, hy, hz, ⟨ds, rfl⟩, q⟩ := h
  simp only [cnt2] at hz
  split at hz
  · rename_i hl
    cases hz
    simp only [Bool.and_eq_true] at hl
    obtain ⟨p1, d1⟩ := shalAll_plain hl.1
    obtain ⟨p2, d2⟩ := shal_plain hl.2
    obtain ⟨u, rfl, ry⟩ := Vals.one rs
    obtain ⟨bs, r2⟩ := Inv.rd I ry hy.w p2
    obtain ⟨a, vs, rfl, hs, rv⟩ := hx.list
    obtain rfl : v = Value.ref a := rx
    obtain ⟨its, rvs, pl, hzz⟩ := I.list hs
    obtain ⟨as, ras⟩ := PySem.W.each_readsAll (fun d => d) (each_reads I (rps_in rvs rv) p1)
    have ras' : ReadsAll s.heap its.toArray.toList ds as := by simpa using ras
    exact SeqAt.count_list_data pl.isList ras' r2 p1 p2 (by omega) ⟨.int _, H, I.tok _, ⟨_, rfl⟩, q _ (.int _)⟩
  · cases hz
theorem mt_cntT (hu : X.A.units + 100 < cLine) : MtR X "tuple.count" (rCntT X.K) := by
  intro pins s σ H x xs v us Q I rx rs h
  obtain ⟨cs, Av, d, e, z, y, ok, hx, rfl, hy, hz, ⟨ds, rfl⟩, q⟩ := h
  simp only [cnt2] at hz
  split at hz
  · rename_i hl
    cases hz
    simp only [Bool.and_eq_true] at hl
    obtain ⟨p1, d1⟩ := shalAll_plain hl.1
    obtain ⟨p2, d2⟩ := shal_plain hl.2
    obtain ⟨u, rfl, ry⟩ := Vals.one rs
    obtain ⟨bs, r2⟩ := Inv.rd I ry hy.w p2
    obtain ⟨a, vs, rfl, hs, rv⟩ := hx.tuple
    obtain rfl : v = Value.ref a := rx
    obtain ⟨its, rvs, pl, hzz⟩ := I.tuple hs.t
    obtain ⟨as, ras⟩ := PySem.W.each_readsAll (fun d => d) (each_reads I (rps_in rvs rv) p1)
    have ras' : ReadsAll s.heap its.toArray.toList ds as := by simpa using ras
    exact SeqAt.count_tuple_data (show s.heap.IsTuple a its.toArray from pl) ras' r2 p1 p2 (by omega) ⟨.int _, H, I.tok _, ⟨_, rfl⟩, q _ (.int _)⟩
  · cases hz
theorem se_cnt {x : CE} (ha : SE G F k a) (hx : SE G F k x) : SE G F k (.cnt a x) := SE.of (fun {X e w} c h => by
  obtain ⟨z, zp, ap, y, cp, rfl, h1, h2, h3, h4⟩ := inv_cnt h
  refine PEimp (pe_or2 (pe_bm PySem.F.plainAttrs_list PySem.F.slot_list_count PySem.F.type_list_count (mt_cnt c.u) (ha.w c h1) (pa_cons (hx.s c h3) pa_nil (star_plain h2 _ _)) rfl (few_one h2) h4 (star_plain h2 _ _) rfl)
    (pe_bmT PySem.F.slot_tuple_count PySem.F.type_tuple_count (mt_cntT c.u) (ha.w c h1) (pa_cons (hx.s c h3) pa_nil (star_plain h2 _ _)) rfl (few_one h2) h4 (star_plain h2 _ _) rfl)) fun σ H Q ⟨cs, Av, ρ, st, r, st', ok, cl, en, he, q⟩ => ?_
  simp only [evE] at he
  split at he
  · rename_i x1 st1 e1
    split at he
    · rename_i x2 st2 e2
      split at he
      · rename_i d e3
        simp only [Option.some.injEq, Prod.mk.injEq] at he
        obtain ⟨rfl, rfl⟩ := he
        have hl : (∃ ds, x1.d = .list ds) ∨ ∃ ds, x1.d = .tuple ds := by
          cases hd : x1.d with
          | list ds => exact .inl ⟨ds, rfl⟩
          | tuple ds => exact .inr ⟨ds, rfl⟩
          | _ => rw [hd] at e3; simp [cnt2] at e3
        rcases hl with ⟨ds, hd⟩ | ⟨ds, hd⟩
        · refine .inl ⟨cs, Av, ρ, st, x1, st1, ok, cl, en, e1, fun v H1 y1 c1 r1 => ?_⟩
          have ok1 := ok.ext y1 c1
          have r1b := r1
          rw [hd] at r1b
          obtain ⟨a, vs, rfl, hs, rs⟩ := r1b.list
          refine ⟨.inl ⟨rfl, vs, hs⟩, cs, Av, ρ, st1, x2, st2, ok1, c1, en.ext ok y1, e2, fun u H2 y2 c2 r2 => ?_⟩
          have ok2 := ok1.ext y2 c2
          exact ⟨cs, Av, x1.d, x2.d, d, u, ok2, r1.ext ok1 y2, rfl, r2.1.rp ok1.there, e3, ⟨ds, hd⟩, fun v hv => q v H2 (y1.trans y2) c2 (.vv hv)⟩
        · refine .inr ⟨cs, Av, ρ, st, x1, st1, ok, cl, en, e1, fun v H1 y1 c1 r1 => ?_⟩
          have ok1 := ok.ext y1 c1
          have r1b := r1
          rw [hd] at r1b
          obtain ⟨a, vs, rfl, hs, rs⟩ := r1b.tuple
          refine ⟨⟨a, vs, rfl, hs⟩, cs, Av, ρ, st1, x2, st2, ok1, c1, en.ext ok y1, e2, fun u H2 y2 c2 r2 => ?_⟩
          have ok2 := ok1.ext y2 c2
          exact ⟨cs, Av, x1.d, x2.d, d, u, ok2, r1.ext ok1 y2, rfl, r2.1.rp ok1.there, e3, ⟨ds, hd⟩, fun v hv => q v H2 (y1.trans y2) c2 (.vv hv)⟩
      · cases he
    · cases he
  · cases he) (fun h => by obtain ⟨z, zp, ap, y, cp, rfl, _⟩ := inv_cnt h; exact ⟨rfl, rfl⟩)
theorem se_sset (ha : SE G F k a) : SE G F k (.sset a) := SE.of (fun {X e w} c h => by
  obtain ⟨p, p2, y, p3, p4, rfl, h1, h2, h3, h4⟩ := inv_sset h
  have m1 : X.mg "sorted" = none := c.g.blt _ (by simp [bltNames])
  have m2 : X.mg "set" = none := c.g.blt _ (by simp [bltNames])
  have inner : PE X (.Call (.Name "set" p2) [y] [] p3) (tCB (rSetI X.K X.w) (tCons (tW X.K F a) tNil)) :=
    pe_callTy (cr_setI c.calm) (isGl_of h2) m2 (by decide +kernel) (pa_cons (ha.w c h4) pa_nil (star_plain h3 _ _)) (by decide) (by decide) (star_plain h3 _ _) rfl
  refine PEimp (pe_callB (cr_sortedSet c.calm) (isGl_of h1) m1 (by decide +kernel) (pa_cons inner pa_nil (star_plain rfl _ _)) (by decide) (by decide) (star_plain rfl _ _) rfl) fun σ H Q ⟨cs, Av, ρ, st, r, st', ok, cl, en, he, q⟩ => ?_
  simp only [evE] at he
  split at he
  · rename_i x st1 e1
    split at he
    · rename_i ds e2
      simp only [Option.some.injEq, Prod.mk.injEq] at he
      obtain ⟨rfl, rfl⟩ := he
      refine ⟨cs, Av, ρ, st, x, _, ok, cl, en, e1, fun v H1 x1 c1 r1 => ?_⟩
      have ok1 := ok.ext x1 c1
      have key : ∃ a ns, v = .ref a ∧ (SqL X.K H1 a (ns.map V.int) ∨ SqT X.K H1 a (ns.map V.int)) ∧ ns.length < 60 ∧ ds = (usort ns).map .int := by
        unfold sset1 at e2
        split at e2
        · rename_i xs hx
          split at e2
          · rename_i ns hn
            split at e2
            · rename_i hl
              cases e2
              rw [hx] at r1
              obtain ⟨a, vs, rfl, hs, rs⟩ := r1.list
              obtain ⟨rfl, _⟩ := rs.ints_of hn
              exact ⟨a, ns, rfl, .inl hs, hl, rfl⟩
            · cases e2
          · cases e2
        · rename_i xs hx
          split at e2
          · rename_i ns hn
            split at e2
            · rename_i hl
              cases e2
              rw [hx] at r1
              obtain ⟨a, vs, rfl, hs, rs⟩ := r1.tuple
              obtain ⟨rfl, _⟩ := rs.ints_of hn
              exact ⟨a, ns, rfl, .inr hs.t, hl, rfl⟩
            · cases e2
          · cases e2
        · cases e2
      obtain ⟨a, ns, rfl, hs, hl, rfl⟩ := key
      refine ⟨a, ns, rfl, hs, hl, fun p c' hp hc' => ⟨p, _, c', rfl, upd_same .., by omega, fun ms p' hup hmem hlen hp' => ?_⟩⟩
      have e : ms = usort ns := up_eq hup (usort_up ns) fun z => by rw [hmem z, usort_mem]; simp
      subst e
      have y1 : Ext [] H1 (upd H1 p (SetO X.w p (fun j => decide (j ∈ ns)) c')) := Ext.upd hp
      have y2 := y1.trans (Ext.upd (o := .lst ((usort ns).map V.int)) hp')
      have hp1 : H1 p' = none := y1.free hp'
      refine q _ _ (x1.trans y2.all) (c1.ext ok1 y2) (RpS.fresh (r := .o _) ⟨p', _, rfl, hp1, upd_same .., Rps.ints _⟩ x1 ok1 c1 y2)
    · cases he
  · cases he) (fun h => by obtain ⟨p, p2, y, p3, p4, rfl, _⟩ := inv_sset h; exact ⟨rfl, rfl⟩)
theorem PE.never {e : Expr} : PE X e (fun _ _ _ => False) := ⟨fun _ _ _ _ _ _ h => h.elim⟩
/-! ### displays of dicts -/
def tPs (K : PySem.W.Frag) (F : FT) (ks : List Str) (ces : CEs) (σ : L2.St) (H : Hp) (Q : List (V × V) → Hp → Prop) : Prop := ∃ (cs : List Addr) (Av : Addr → Prop) (ρ : Rho) (st : Sto) (ds : List D) (st' : Sto),
  AvOk cs Av H ∧ Cl K cs Av H st ∧ En K cs Av H σ ρ ∧ evEs F ces ρ st = some (ds, st') ∧ ∀ vs H', Ext cs H H' → Cl K cs Av H' st' → Rps K cs Av H' vs ds → Q (((ks.map Sum.inr : List L2.Key).zip vs).map fun p => (kV p.1, p.2)) H'
structure SDs (G : Ga) (F : FT) (k : Nat) (ces : CEs) : Prop where
  d : ∀ {X : Cx} {ks : List Str} {keys : List (Option Expr)} {vals : List Expr} {pos : Pos}, Cd G F k X → chkKy ks keys = true → chkAs G X.env.scope false ces vals = true → keys.length = vals.length →
    ∃ trs, PPs X pos keys vals trs ∧ ∀ σ H Q, tPs X.K F ks ces σ H Q → tPairs trs σ H Q
theorem ky_nil {ks : List Str} (h : chkKy ks [] = true) : ks = [] := by
  cases ks with
  | nil => rfl
  | cons x r => exact ff h
theorem sds_nil : SDs G F k .nil := ⟨fun {X ks keys vals pos} c h1 h2 hl => by
  cases vals with
  | cons e es => exact ff h2
  | nil =>
    cases keys with
    | cons => simp at hl
    | nil =>
      obtain rfl := ky_nil h1
      exact ⟨[], pps_nil, fun σ H Q ⟨cs, Av, ρ, st, ds, st', ok, cl, en, he, q⟩ => by
        simp only [evEs, Option.some.injEq, Prod.mk.injEq] at he
        obtain ⟨rfl, rfl⟩ := he
        exact q [] H (fun b o h _ => h) cl .nil⟩⟩
theorem sds_cons {r : CEs} (hs : SE G F k ce) (hr : SDs G F k r) : SDs G F k (.cons false ce r) := ⟨fun {X ks keys vals pos} c h1 h2 hl => by
  cases vals with
  | nil => exact ff h2
  | cons e es =>
    cases keys with
    | nil => simp at hl
    | cons ky keys =>
      cases ks with
      | nil => exact ff h1
      | cons x ks =>
        match ky, h1 with
        | some (.Constant (.str y) j p), h1 =>
          have h1' : (x == y && chkKy ks keys) = true := h1
          rw [Bool.and_eq_true] at h1'
          obtain rfl := eq_of_beq h1'.1
          have h2' : (plainE e && chkE G X.env.scope false ce e && chkAs G X.env.scope false r es) = true := h2
          simp only [Bool.and_eq_true] at h2'
          obtain ⟨trs, pp, hq⟩ := hr.d (pos := pos) c h1'.2 h2'.2 (by simpa using hl)
          refine ⟨(tC (.str x), tS X.K F ce) :: trs, pps_cons pe_str (hs.s c h2'.1.2) pp, fun σ H Q ⟨cs, Av, ρ, st, ds, st', ok, cl, en, he, q⟩ => ?_⟩
          simp only [evEs] at he
          split at he
          · rename_i x1 st1 e1
            split at he
            · rename_i ds1 st2 e2
              simp only [Option.some.injEq, Prod.mk.injEq] at he
              obtain ⟨rfl, rfl⟩ := he
              refine ⟨cs, Av, ρ, st, x1, st1, ok, cl, en, e1, fun v H1 y1 c1 r1 => ?_⟩
              have ok1 := ok.ext y1 c1
              refine hq σ H1 _ ⟨cs, Av, ρ, st1, ds1, _, ok1, c1, en.ext ok y1, e2, fun vs H2 y2 c2 r2 => ?_⟩
              exact q (v :: vs) H2 (y1.trans y2) c2 (.cons ((r1.1.rp ok.there).ext ok1 y2) r2)
            · cases he
          · cases he
        | none, h1 => exact ff h1⟩
theorem sds_star {r : CEs} : SDs G F k (.cons true ce r) := ⟨fun {X ks keys vals pos} c h1 h2 hl => by
  cases vals <;> exact ff h2⟩
theorem putK_new {κ : Type} [DecidableEq κ] {kvs : List (κ × V)} {k : κ} {v : V} (h : ∀ p ∈ kvs, p.1 ≠ k) : putK kvs k v = kvs ++ [(k, v)] := by
  unfold putK
  rw [if_neg]
  simp only [List.any_eq_true, decide_eq_true_eq, not_exists, not_and]
  exact h
theorem mergeK_new : ∀ (more kvs : List (L2.Key × V)), (more.map (·.1)).Nodup → (∀ p ∈ kvs, ∀ q ∈ more, p.1 ≠ q.1) → mergeK kvs more = kvs ++ more
  | [], kvs, _, _ => by simp [mergeK]
  | q :: r, kvs, hn, hd => by
    rw [List.map_cons, List.nodup_cons] at hn
    show mergeK (putK kvs q.1 q.2) r = _
    rw [putK_new fun p hp => hd p hp q (List.mem_cons_self ..), mergeK_new r _ hn.2]
    · simp
    · intro p hp z hz
      rcases List.mem_append.mp hp with hp | hp
      · exact hd p hp z (List.mem_cons_of_mem _ hz)
      · rw [List.mem_singleton] at hp
        subst hp
        intro e
        exact hn.1 (List.mem_map.mpr ⟨z, hz, e.symm⟩)
theorem ky_len : ∀ {ks : List Str} {keys : List (Option Expr)}, chkKy ks keys = true → keys.length = ks.length ∧ keys.all (·.isSome) = true
  | [], [], _ => ⟨rfl, rfl⟩
  | [], _ :: _, h => ff h
  | _ :: _, [], h => ff h
  | x :: ks, ky :: keys, h => by
    match ky, h with
    | some (.Constant (.str y) j p), h =>
      have h' : (x == y && chkKy ks keys) = true := h
      rw [Bool.and_eq_true] at h'
      obtain ⟨a, b⟩ := ky_len h'.2
      exact ⟨by simp [a], by simp [b]⟩
    | none, h => exact ff h
theorem zip_keys {ks : List L2.Key} {vs : List V} (hl : ks.length = vs.length) (hn : ks.Nodup) : ((ks.zip vs).map (·.1)).Nodup := by
  rw [List.map_fst_zip (by omega)]
  exact hn
theorem nodup_inr {ks : List Str} (h : ks.Nodup) : (ks.map (Sum.inr : Str → L2.Key)).Nodup := List.Pairwise.map _ (fun a b hab z => hab (by injection z)) h
/-- a display's end: the dict is written -/
theorem disp_end {K : PySem.W.Frag} {cs : List Addr} {Av : Addr → Prop} {H H2 : Hp} {st1 : Sto} {p : Addr} {ks : List L2.Key} {vs : List V} {ds : List D} {Q : VK} (hp : H p = none) (ok0 : AvOk cs Av (upd H p (.dK []))) (x2 : Ext cs (upd H p (.dK [])) H2) (c2 : Cl K cs Av H2 st1) (r2 : Rps K cs Av H2 vs ds)
    (hk0 : ks ≠ []) (hc1 : ks.length = ds.length) (hc2 : ks.Nodup) (hc3 : ks.length ≤ 15) (q : ∀ v H', Ext cs H H' → Cl K cs Av H' st1 → Rp K cs Av H' v (dOf ks ds) → Q v H') :
    H2 p = some (.dK []) ∧ ∃ kvs : List (L2.Key × V), ((ks.zip vs).map fun p => (kV p.1, p.2)) = kvs.map (fun kv => (kV kv.1, kv.2)) ∧ kvs.length ≤ 15 ∧ Q (.ref p) (upd H2 p (.dK (mergeK [] kvs))) := by
  have hpn : p ∉ cs := ok0.not_cell (upd_same ..) fun xs z => nomatch z
  have hp2 : H2 p = some (.dK []) := x2 p _ (upd_same ..) hpn
  have hlv : ks.length = vs.length := by rw [hc1, r2.length]
  refine ⟨hp2, ks.zip vs, rfl, by rw [List.length_zip]; omega, ?_⟩
  rw [mergeK_new _ [] (zip_keys hlv hc2) (fun p hp => by cases hp), List.nil_append]
  have x3 : Ext cs H (upd H2 p (.dK (ks.zip vs))) := fun b o hb hn => by
    have hbp : b ≠ p := fun z => by subst z; rw [hp] at hb; cases hb
    rw [upd_ne hbp]
    exact x2 b o (by rw [upd_ne hbp]; exact hb) hn
  have c3 : Cl K cs Av (upd H2 p (.dK (ks.zip vs))) st1 := ⟨c2.len, c2.nd, fun n a ds h1 h2 => by
    obtain ⟨us, hu, ru⟩ := c2.at_ n a ds h1 h2
    exact ⟨us, by rw [upd_ne fun z => by subst z; rw [hp2] at hu; cases hu]; exact hu, ru.u hp2⟩⟩
  exact q _ _ x3 c3 (.dct (upd_same ..) hk0 hc1 (r2.u hp2) rfl)
theorem se_dlit {ks : List Str} {es : CEs} (hs : SDs G F k es) : SE G F k (.dlit ks es) := SE.of (fun {X e w} c h => by
  obtain ⟨keys, vals, p, rfl, h1, h2, h3⟩ := inv_dlit h
  obtain ⟨trs, pp, hq⟩ := hs.d (pos := p) c h1 h2 h3
  obtain ⟨hkl, hks⟩ := ky_len h1
  by_cases hk0 : ks = []
  · subst hk0
    have hk : keys = [] := List.eq_nil_of_length_eq_zero (by simpa using hkl)
    subst hk
    have hv : vals = [] := List.eq_nil_of_length_eq_zero (by simpa using h3.symm)
    subst hv
    refine PEimp pe_dnewT fun σ H Q ⟨cs, Av, ρ, st, r, st', ok, cl, en, he, q⟩ => fun p hp => ?_
    simp only [evE] at he
    split at he
    · rename_i ds st1 e1
      split at he
      · rename_i hc
        have hes : es = .nil := by
          cases es with
          | nil => rfl
          | cons s e r => cases s <;> exact ff h2
        subst hes
        simp only [evEs, Option.some.injEq, Prod.mk.injEq] at e1 he
        obtain ⟨rfl, rfl⟩ := e1
        obtain ⟨rfl, rfl⟩ := he
        have z : Ext [] H (upd H p (.dT [])) := Ext.upd hp
        exact q _ _ z.all (cl.ext ok z) (.vv (.dct0 (upd_same ..)))
      · cases he
    · cases he
  by_cases h15 : keys.length ≤ 15
  · refine PEimp (pe_disp pp hks h3 (fun z => hk0 (by subst z; exact List.eq_nil_of_length_eq_zero (by simpa using hkl.symm))) h15) fun σ H Q ⟨cs, Av, ρ, st, r, st', ok, cl, en, he, q⟩ => fun p hp => ?_
    simp only [evE] at he
    split at he
    · rename_i ds st1 e1
      split at he
      · rename_i hc
        obtain ⟨hc1, hc2, hc3⟩ := hc
        simp only [Option.some.injEq, Prod.mk.injEq] at he
        obtain ⟨rfl, rfl⟩ := he
        have x0 : Ext [] H (upd H p (.dK [])) := Ext.upd hp
        have c0 := cl.ext ok x0
        have ok0 := ok.ext x0.all c0
        refine hq σ _ _ ⟨cs, Av, ρ, st, ds, _, ok0, c0, en.ext ok x0.all, e1, fun vs H2 x2 c2 r2 => ?_⟩
        exact disp_end hp ok0 x2 c2 r2 (fun z => hk0 (List.map_eq_nil_iff.mp z)) (by rw [List.length_map]; exact hc1) (nodup_inr hc2) (by rw [List.length_map]; exact hc3) fun v H' a b c => q v H' a b (.vv c)
      · cases he
    · cases he
  · refine PEimp (PE.never) fun σ H Q ⟨cs, Av, ρ, st, r, st', ok, cl, en, he, q⟩ => ?_
    simp only [evE] at he
    split at he
    · split at he
      · rename_i hc
        omega
      · cases he
    · cases he) (fun h => by obtain ⟨keys, vals, p, rfl, _⟩ := inv_dlit h; exact ⟨rfl, rfl⟩)
/-! ### displays with names as keys, d.get(k, z), list.index -/
def tPi (K : PySem.W.Frag) (F : FT) (is : List Nat) (ces : CEs) (σ : L2.St) (H : Hp) (Q : List (V × V) → Hp → Prop) : Prop := ∃ (cs : List Addr) (Av : Addr → Prop) (ρ : Rho) (st : Sto) (ks : List L2.Key) (ds : List D) (st' : Sto),
  AvOk cs Av H ∧ Cl K cs Av H st ∧ En K cs Av H σ ρ ∧ keysAt ρ is = some ks ∧ evEs F ces ρ st = some (ds, st') ∧ ∀ vs H', Ext cs H H' → Cl K cs Av H' st' → Rps K cs Av H' vs ds → Q ((ks.zip vs).map fun p => (kV p.1, p.2)) H'
structure SDi (G : Ga) (F : FT) (k : Nat) (ces : CEs) : Prop where
  d : ∀ {X : Cx} {is : List Nat} {keys : List (Option Expr)} {vals : List Expr} {pos : Pos}, Cd G F k X → chkKn G X.env.scope is keys = true → chkAs G X.env.scope false ces vals = true → keys.length = vals.length →
    ∃ trs, PPs X pos keys vals trs ∧ ∀ σ H Q, tPi X.K F is ces σ H Q → tPairs trs σ H Q
theorem kn_nil {G : Ga} {sc : Scope} {is : List Nat} (h : chkKn G sc is [] = true) : is = [] := by
  cases is with
  | nil => rfl
  | cons x r => exact ff h
theorem sdi_nil : SDi G F k .nil := ⟨fun {X is keys vals pos} c h1 h2 hl => by
  cases vals with
  | cons e es => exact ff h2
  | nil =>
    cases keys with
    | cons => simp at hl
    | nil =>
      obtain rfl := kn_nil h1
      exact ⟨[], pps_nil, fun σ H Q ⟨cs, Av, ρ, st, ks, ds, st', ok, cl, en, hk, he, q⟩ => by
        simp only [evEs, Option.some.injEq, Prod.mk.injEq] at he
        obtain ⟨rfl, rfl⟩ := he
        simp only [keysAt, Option.some.injEq] at hk
        subst hk
        exact q [] H (fun b o h _ => h) cl .nil⟩⟩
theorem sdi_cons {r : CEs} (hs : SE G F k ce) (hr : SDi G F k r) : SDi G F k (.cons false ce r) := ⟨fun {X is keys vals pos} c h1 h2 hl => by
  cases vals with
  | nil => exact ff h2
  | cons e es =>
    cases keys with
    | nil => simp at hl
    | cons ky keys =>
      cases is with
      | nil => exact ff h1
      | cons i is =>
        match ky, h1 with
        | some (.Name y p), h1 =>
          have h1' : ((nmIs G.N i y && isVis X.env.scope y && okN y) && chkKn G X.env.scope is keys) = true := h1
          rw [Bool.and_eq_true] at h1'
          have h2' : (plainE e && chkE G X.env.scope false ce e && chkAs G X.env.scope false r es) = true := h2
          simp only [Bool.and_eq_true] at h2'
          obtain ⟨trs, pp, hq⟩ := hr.d (pos := pos) c h1'.2 h2'.2 (by simpa using hl)
          refine ⟨(tVar i, tS X.K F ce) :: trs, pps_cons (var_ok c h1'.1) (hs.s c h2'.1.2) pp, fun σ H Q ⟨cs, Av, ρ, st, ks, ds, st', ok, cl, en, hk, he, q⟩ => ?_⟩
          simp only [keysAt] at hk
          split at hk
          · rename_i a ks' hi hk'
            cases hk
            simp only [evEs] at he
            split at he
            · rename_i x1 st1 e1
              split at he
              · rename_i ds1 st2 e2
                simp only [Option.some.injEq, Prod.mk.injEq] at he
                obtain ⟨rfl, rfl⟩ := he
                obtain ⟨u, hu, ru⟩ := slot_v en hi
                cases ru
                refine ⟨.int a, hu, cs, Av, ρ, st, x1, st1, ok, cl, en, e1, fun v H1 y1 c1 r1 => ?_⟩
                have ok1 := ok.ext y1 c1
                refine hq σ H1 _ ⟨cs, Av, ρ, st1, ks', ds1, _, ok1, c1, en.ext ok y1, hk', e2, fun vs H2 y2 c2 r2 => ?_⟩
                exact q (v :: vs) H2 (y1.trans y2) c2 (.cons ((r1.1.rp ok.there).ext ok1 y2) r2)
              · cases he
            · cases he
          · cases hk
        | none, h1 => exact ff h1⟩
theorem sdi_star {r : CEs} : SDi G F k (.cons true ce r) := ⟨fun {X is keys vals pos} c h1 h2 hl => by
  cases vals <;> exact ff h2⟩
theorem kn_len {G : Ga} {sc : Scope} : ∀ {is : List Nat} {keys : List (Option Expr)}, chkKn G sc is keys = true → keys.length = is.length ∧ keys.all (·.isSome) = true
  | [], [], _ => ⟨rfl, rfl⟩
  | [], _ :: _, h => ff h
  | _ :: _, [], h => ff h
  | x :: ks, ky :: keys, h => by
    match ky, h with
    | some (.Name y p), h =>
      have h' : ((nmIs G.N x y && isVis sc y && okN y) && chkKn G sc ks keys) = true := h
      rw [Bool.and_eq_true] at h'
      obtain ⟨a, b⟩ := kn_len h'.2
      exact ⟨by simp [a], by simp [b]⟩
    | none, h => exact ff h
theorem keysAt_len {ρ : Rho} : ∀ {is : List Nat} {ks : List L2.Key}, keysAt ρ is = some ks → ks.length = is.length
  | [], ks, h => by simp only [keysAt, Option.some.injEq] at h; subst h; rfl
  | i :: is, ks, h => by
    simp only [keysAt] at h
    split at h
    · rename_i a ks' hi hk
      cases h
      rw [List.length_cons, List.length_cons, keysAt_len hk]
    · cases h
theorem se_dlitI {is : List Nat} {es : CEs} (hs : SDi G F k es) : SE G F k (.dlitI is es) := SE.of (fun {X e w} c h => by
  obtain ⟨keys, vals, p, rfl, h1, h2, h3⟩ := inv_dlitI h
  obtain ⟨trs, pp, hq⟩ := hs.d (pos := p) c h1 h2 h3
  obtain ⟨hkl, hks⟩ := kn_len h1
  by_cases hb : keys ≠ [] ∧ keys.length ≤ 15
  · refine PEimp (pe_disp pp hks h3 hb.1 hb.2) fun σ H Q ⟨cs, Av, ρ, st, r, st', ok, cl, en, he, q⟩ => fun p hp => ?_
    simp only [evE] at he
    split at he
    · rename_i ks ds st1 hk e1
      split at he
      · rename_i hc
        obtain ⟨hc0, hc1, hc2, hc3⟩ := hc
        simp only [Option.some.injEq, Prod.mk.injEq] at he
        obtain ⟨rfl, rfl⟩ := he
        have x0 : Ext [] H (upd H p (.dK [])) := Ext.upd hp
        have c0 := cl.ext ok x0
        have ok0 := ok.ext x0.all c0
        refine hq σ _ _ ⟨cs, Av, ρ, st, ks, ds, _, ok0, c0, en.ext ok x0.all, hk, e1, fun vs H2 x2 c2 r2 => ?_⟩
        exact disp_end hp ok0 x2 c2 r2 (fun z => hb.1 (List.eq_nil_of_length_eq_zero (by rw [hkl, ← keysAt_len hk, z]; rfl))) hc1 hc2 hc3 fun v H' a b c => q v H' a b (.vv c)
      · cases he
    · cases he
  · refine PEimp (PE.never) fun σ H Q ⟨cs, Av, ρ, st, r, st', ok, cl, en, he, q⟩ => ?_
    simp only [evE] at he
    split at he
    · rename_i ks ds st1 hk e1
      split at he
      · rename_i hc
        have hlk := keysAt_len hk
        exact absurd ⟨fun z => hc.1 (List.eq_nil_of_length_eq_zero (by rw [hlk, ← hkl, z]; rfl)), by omega⟩ hb
      · cases he
    · cases he) (fun h => by obtain ⟨keys, vals, p, rfl, _⟩ := inv_dlitI h; exact ⟨rfl, rfl⟩)
theorem idxI_at {k : Int} : ∀ {ns : List Int} {j : Nat}, idxI k ns = some j → ns[j]? = some k ∧ ∀ m, m < j → ns[m]? ≠ some k
  | [], j, h => by cases h
  | x :: r, j, h => by
    unfold idxI at h
    split at h
    · rename_i hx
      cases h
      exact ⟨by simp [hx], fun m hm => by omega⟩
    · rename_i hx
      cases hr : idxI k r with
      | none => rw [hr] at h; cases h
      | some i =>
        rw [hr] at h
        cases h
        obtain ⟨h1, h2⟩ := idxI_at hr
        refine ⟨by simpa using h1, fun m hm => ?_⟩
        cases m with
        | zero => simp [hx]
        | succ m => simpa using h2 m (by simp only at hm; omega)
def rIdxT (K : PySem.W.Frag) : V → List V → Hp → VK → Prop := fun x xs H Q => ∃ cs Av ds e j y, AvOk cs Av H ∧ Rw K cs Av H x (.tuple ds) ∧ xs = [y] ∧ Rp K cs Av H y e ∧ (shalAll 19 ds && flat e) = true ∧ (ds.findIdx? fun y => PyData.eqv y e) = some j ∧ Q (.int (j : Nat)) H
theorem mt_idxT (hu : X.A.units + 100 < cLine) : MtR X "tuple.index" (rIdxT X.K) := by
  intro pins s σ H x xs v us Q I rx rs h
  obtain ⟨cs, Av, ds, e, j, y, ok, hx, rfl, hy, hl, hj, q⟩ := h
  simp only [Bool.and_eq_true] at hl
  obtain ⟨p1, d1⟩ := shalAll_plain hl.1
  obtain ⟨p2, d2⟩ := shal_plain hl.2
  obtain ⟨u, rfl, ry⟩ := Vals.one rs
  obtain ⟨bs, r2⟩ := Inv.rd I ry hy.w p2
  obtain ⟨a, vs, rfl, hs, rv⟩ := hx.tuple
  obtain rfl : v = Value.ref a := rx
  obtain ⟨its, rvs, pl, hzz⟩ := I.tuple hs.t
  obtain ⟨as, ras⟩ := PySem.W.each_readsAll (fun d => d) (each_reads I (rps_in rvs rv) p1)
  have ras' : ReadsAll s.heap its.toArray.toList ds as := by simpa using ras
  obtain ⟨⟨cls, dd, data, sl⟩, ho, hc, n, hd⟩ := pl
  simp only at hc hd
  subst hc hd
  obtain ⟨hj', hit, hno⟩ := SeqAt.hit_at (d := e) ras' p1 hj
  exact call_meets PySem.F.slot_tuple_index ⟨_, ho, rfl⟩ PySem.F.entry_tuple_index (PySem.F.args_tuple_index_2 _ _) (TI.tuple_indexAt a its.toArray n dd sl u _ j hj' hit hno) ⟨ho, SeqAt.items_plain ras' r2 p1 p2 (by omega), ⟨.int _, H, I.tok _, ⟨_, rfl⟩, q⟩⟩
theorem se_idx {x : CE} (ha : SE G F k a) (hx : SE G F k x) : SE G F k (.idx a x) := SE.of (fun {X e w} c h => by
  obtain ⟨z, zp, ap, y, cp, rfl, h1, h2, h3, h4⟩ := inv_idx h
  refine PEimp (pe_or2 (pe_bm PySem.F.plainAttrs_list PySem.F.slot_list_index PySem.F.type_list_index mt_index (ha.w c h1) (pa_cons (hx.s c h3) pa_nil (star_plain h2 _ _)) rfl (few_one h2) h4 (star_plain h2 _ _) rfl)
    (pe_bmT PySem.F.slot_tuple_index PySem.F.type_tuple_index (mt_idxT c.u) (ha.w c h1) (pa_cons (hx.s c h3) pa_nil (star_plain h2 _ _)) rfl (few_one h2) h4 (star_plain h2 _ _) rfl)) fun σ H Q ⟨cs, Av, ρ, st, r, st', ok, cl, en, he, q⟩ => ?_
  simp only [evE] at he
  split at he
  · rename_i x1 st1 e1
    split at he
    · rename_i x2 st2 e2
      split at he
      · rename_i d e3
        simp only [Option.some.injEq, Prod.mk.injEq] at he
        obtain ⟨rfl, rfl⟩ := he
        have hl : (∃ ds kk ns j, x1.d = .list ds ∧ x2.d = .int kk ∧ ints? ds = some ns ∧ idxI kk ns = some j ∧ d = .int (j : Nat)) ∨ ∃ ds j, x1.d = .tuple ds ∧ (shalAll 19 ds && flat x2.d) = true ∧ (ds.findIdx? fun y => PyData.eqv y x2.d) = some j ∧ d = .int (j : Nat) := by
          unfold idx2 at e3
          split at e3
          · rename_i ds hd1
            split at e3
            · rename_i hl
              obtain ⟨j, hj, rfl⟩ := Option.map_eq_some_iff.mp e3
              exact .inr ⟨ds, j, hd1, hl, hj, rfl⟩
            · cases e3
          · rename_i ds kk hd1 hd2
            split at e3
            · rename_i ns hns
              obtain ⟨j, hj, rfl⟩ := Option.map_eq_some_iff.mp e3
              exact .inl ⟨ds, kk, ns, j, hd1, hd2, hns, hj, rfl⟩
            · cases e3
          · cases e3
        rcases hl with ⟨ds, kk, ns, j, hd1, hd2, hns, hj, rfl⟩ | ⟨ds, j, hd1, hl, hj, rfl⟩
        · refine .inl ⟨cs, Av, ρ, st, x1, st1, ok, cl, en, e1, fun v H1 y1 c1 r1 => ?_⟩
          have ok1 := ok.ext y1 c1
          have r1b := r1
          rw [hd1] at r1b
          obtain ⟨a, vs, rfl, hs, rs⟩ := r1b.list
          refine ⟨.inl ⟨rfl, vs, hs⟩, cs, Av, ρ, st1, x2, st2, ok1, c1, en.ext ok y1, e2, fun u H2 y2 c2 r2 => ?_⟩
          have r1c := r1.ext ok1 y2
          rw [hd1] at r1c
          obtain ⟨a', vs', e, hs', rs'⟩ := r1c.list
          cases e
          obtain ⟨rfl, _⟩ := rs'.ints_of hns
          have ru := (r2.1.rp ok1.there).w
          rw [hd2] at ru
          obtain rfl := ru.int
          obtain ⟨i1, i2⟩ := idxI_at hj
          refine ⟨a, ns.map V.int, .int kk, j, .int kk, rfl, rfl, hs', rfl, by simp [flatV], by simp [i1], by simp [eqV], fun m z' hm hz => ?_, q _ H2 (y1.trans y2) c2 (.vv (.int _))⟩
          rw [List.getElem?_map] at hz
          obtain ⟨z, hz1, rfl⟩ := Option.map_eq_some_iff.mp hz
          have := i2 m hm
          rw [hz1] at this
          show (z == kk) = false
          exact beq_eq_false_iff_ne.mpr fun e => this (by rw [e])
        · refine .inr ⟨cs, Av, ρ, st, x1, st1, ok, cl, en, e1, fun v H1 y1 c1 r1 => ?_⟩
          have ok1 := ok.ext y1 c1
          have r1b := r1
          rw [hd1] at r1b
          obtain ⟨a, vs, rfl, hs, rs⟩ := r1b.tuple
          refine ⟨⟨a, vs, rfl, hs⟩, cs, Av, ρ, st1, x2, st2, ok1, c1, en.ext ok y1, e2, fun u H2 y2 c2 r2 => ?_⟩
          have ok2 := ok1.ext y2 c2
          have r1c := r1.ext ok1 y2
          rw [hd1] at r1c
          exact ⟨cs, Av, ds, x2.d, j, u, ok2, r1c, rfl, r2.1.rp ok1.there, hl, hj, q _ H2 (y1.trans y2) c2 (.vv (.int _))⟩
      · cases he
    · cases he
  · cases he) (fun h => by obtain ⟨z, zp, ap, y, cp, rfl, _⟩ := inv_idx h; exact ⟨rfl, rfl⟩)
theorem two_m {x : Str} {xp ap cp : Pos} {e f : Expr} (h1 : plainE e = true) (h2 : plainE f = true) (h3 : (ap.endLine == cp.line) = true) : M2 X (.Name x xp) "get" ap e f cp := by
  have t : backTo cp (starEach [e, f] X.env) = [(false, eval e X.env), (false, eval f X.env)] := by
    rw [star_plain h1, star_plain h2]; rfl
  refine ⟨rfl, ?_, h3, t⟩
  rw [t]; rfl
theorem kV_of {K : PySem.W.Frag} {cs : List Addr} {Av : Addr → Prop} {H : Hp} {v : V} {d : D} {x : L2.Key} (h : Rw K cs Av H v d) (hk : kOf d = some x) : v = kV x := by
  cases d with
  | int i => cases hk; exact h.int
  | str s => cases hk; exact h.str
  | _ => cases hk
theorem se_dget {b z : CE} (ha : SE G F k a) (hb : SE G F k b) (hz : SE G F k z) : SE G F k (.dget a b z) := SE.of (fun {X e w} c h => by
  obtain ⟨x, xp, ap, y, f, cp, rfl, h1, h2, h3, h4, h5, h6⟩ := inv_dget h
  refine PEimp (pe_dget2 (by have := c.u; omega) (ha.s c h1) (hb.s c h4) (hz.s c h5) (two_m h2 h3 h6)) fun σ H Q ⟨cs, Av, ρ, st, r, st', ok, cl, en, he, q⟩ => ?_
  simp only [evE] at he
  split at he
  · rename_i x1 st1 e1
    split at he
    · rename_i x2 st2 e2
      split at he
      · rename_i x3 st3 e3
        split at he
        · rename_i d e4
          simp only [Option.some.injEq, Prod.mk.injEq] at he
          obtain ⟨rfl, rfl⟩ := he
          have hl : ∃ kvs kx, x1.d = .dict kvs ∧ kOf x2.d = some kx ∧ isDk (.dict kvs) = true ∧ d = (dAt kvs kx).getD x3.d := by
            unfold dget3 at e4
            split at e4
            · rename_i kvs kx hd1 hd2
              split at e4
              · rename_i hdk
                cases e4
                exact ⟨kvs, kx, hd1, hd2, hdk, rfl⟩
              · cases e4
            · cases e4
          obtain ⟨kvs, kx, hd1, hd2, hdk, rfl⟩ := hl
          refine ⟨cs, Av, ρ, st, x1, st1, ok, cl, en, e1, fun v H1 y1 c1 r1 => ?_⟩
          have ok1 := ok.ext y1 c1
          have r1b := r1.1.rp ok.there
          rw [hd1] at r1b
          cases r1b with
          | cell hn => simp [isDk, kOf] at hdk
          | @dct a ks vs ds kd hH h0 hle rs hk =>
            subst hk
            refine ⟨a, rfl, .inl ⟨_, .inl hH⟩, cs, Av, ρ, st1, x2, st2, ok1, c1, en.ext ok y1, e2, fun u H2 y2 c2 r2 => ?_⟩
            have ok2 := ok1.ext y2 c2
            refine ⟨cs, Av, ρ, st2, x3, _, ok2, c2, (en.ext ok y1).ext ok1 y2, e3, fun u3 H3 y3 c3 r3 => ?_⟩
            have ok3 := ok2.ext y3 c3
            have hy : u = kV kx := kV_of (r2.1.rp ok1.there).w hd2
            have rs3 := (rs.ext ok1 y2).ext ok2 y3
            have hH3 : H3 a = some (.dK (ks.zip vs)) := y3 _ _ (y2 _ _ hH (ok1.not_cell hH fun xs z => nomatch z)) (ok2.not_cell (y2 _ _ hH (ok1.not_cell hH fun xs z => nomatch z)) fun xs z => nomatch z)
            have x13 := (y1.trans y2).trans y3
            rcases dAt_rel (x := kx) hle rs3 with ⟨z1, z2⟩ | ⟨d', v', z1, z2, rv⟩
            · refine ⟨none, .inl ⟨_, _, .inl hH3, hy, z2.symm⟩, ?_⟩
              rw [z1] at q
              exact q _ H3 x13 c3 (.vv (r3.1.rp ok2.there))
            · refine ⟨some v', .inl ⟨_, _, .inl hH3, hy, z2.symm⟩, ?_⟩
              rw [z1] at q
              exact q _ H3 x13 c3 (.vv rv)
          | dct0 hH =>
            simp [isDk] at hdk
        · cases he
      · cases he
    · cases he
  · cases he) (fun h => by obtain ⟨x, xp, ap, y, f, cp, rfl, _⟩ := inv_dget h; exact ⟨rfl, rfl⟩)
end
end Ev

set_option Elab.async false
set_option linter.all false
set_option maxRecDepth 100000
set_option maxHeartbeats 4000000
/-! All the expressions, by induction. -/
namespace Ev
open PySem PySem.Spec PyProof.Rows L2
section
variable {G : Ga} {F : FT} {k : Nat}
mutual
theorem sE (G : Ga) (F : FT) (k : Nat) : ∀ ce : CE, SE G F k ce
  | .var i => se_var i
  | .peek i => se_peek i
  | .con d => se_con d
  | .gl x d => se_gl x d
  | .tup es => se_tup (sEs G F k es)
  | .lst es => se_lst (sEs G F k es)
  | .bin o a b => se_bin (sE G F k a) (sE G F k b)
  | .neg a => se_neg (sE G F k a)
  | .cmp o a b => se_cmp (sE G F k a) (sE G F k b)
  | .chain o p a b c => se_chain (sE G F k a) (sE G F k b) (sE G F k c)
  | .and a b => se_and (sE G F k a) (sE G F k b)
  | .or a b => se_or (sE G F k a) (sE G F k b)
  | .one a => se_one (sE G F k a)
  | .not a => se_not (sE G F k a)
  | .ite c a b => se_ite (sE G F k c) (sE G F k a) (sE G F k b)
  | .sub a i => se_sub (sE G F k a) (sE G F k i)
  | .sl a lo hi => se_sl (sE G F k a) (sO G F k lo) (sO G F k hi)
  | .rev a => se_rev (sE G F k a)
  | .call f es => se_call (sEs G F k es)
  | .callk f es perm => se_callk (sKs G F k es)
  | .blt b es => se_blt (sEs G F k es)
  | .isi t a => se_isi (sE G F k a)
  | .meth m a es => SE.of (fun {X e w} c h => by cases e <;> exact ff h) (fun {sc e w} h => by cases e <;> exact ff h)
  | .lrng es => se_lrng (sEs G F k es)
  | .trng es => se_trng (sEs G F k es)
  | .comp own tg it ifs elt => se_comp (sI G F k it) (sFs G F k ifs) (sE G F k elt)
  | .comp2 own tg it ifs tg1 it1 ifs1 elt => se_comp2 (sI G F k it) (sFs G F k ifs) (sI G F k it1) (sFs G F k ifs1) (sE G F k elt)
  | .cnt a x => se_cnt (sE G F k a) (sE G F k x)
  | .idx a x => se_idx (sE G F k a) (sE G F k x)
  | .dlitI is es => se_dlitI (sDi G F k es)
  | .dget a b z => se_dget (sE G F k a) (sE G F k b) (sE G F k z)
  | .sset a => se_sset (sE G F k a)
  | .dlit ks es => se_dlit (sDs G F k es)
theorem sDs (G : Ga) (F : FT) (k : Nat) : ∀ ces : CEs, SDs G F k ces
  | .nil => sds_nil
  | .cons false e r => sds_cons (sE G F k e) (sDs G F k r)
  | .cons true e r => sds_star
theorem sDi (G : Ga) (F : FT) (k : Nat) : ∀ ces : CEs, SDi G F k ces
  | .nil => sdi_nil
  | .cons false e r => sdi_cons (sE G F k e) (sDi G F k r)
  | .cons true e r => sdi_star
theorem sEs (G : Ga) (F : FT) (k : Nat) : ∀ ces : CEs, SEs G F k ces
  | .nil => ses_nil
  | .cons false e r => ses_cons (sE G F k e) (sEs G F k r)
  | .cons true e r => ses_star (sE G F k e) (sEs G F k r)
theorem sKs (G : Ga) (F : FT) (k : Nat) : ∀ ces : CEs, SKs G F k ces
  | .nil => sks_nil
  | .cons false e r => sks_cons (sE G F k e) (sKs G F k r)
  | .cons true e r => sks_star
theorem sFs (G : Ga) (F : FT) (k : Nat) : ∀ ces : CEs, SFs G F k ces
  | .nil => sfs_nil
  | .cons s e r => sfs_cons (sE G F k e) (sFs G F k r)
theorem sO (G : Ga) (F : FT) (k : Nat) : ∀ ce : CEo, SO G F k ce
  | .none => so_none
  | .some e => so_some (sE G F k e)
theorem sI (G : Ga) (F : FT) (k : Nat) : ∀ ci : CI, SI G F k ci
  | .seq e => si_seq (sE G F k e)
  | .rng es => si_rng (sEs G F k es)
  | .enum e => si_enum (sE G F k e)
  | .zip a b => si_zip (sE G F k a) (sE G F k b)
end
end
end Ev

set_option Elab.async false
set_option linter.all false
set_option maxRecDepth 100000
set_option maxHeartbeats 4000000
/-! Where a body stands. -/
namespace Ev
open PySem PySem.Spec PyProof.Rows L2

/-- the slot i owns the list at a -/
def OwnAt (σ : L2.St) (ρ : Rho) (i : Nat) (a : Addr) : Prop := ∃ ds : List D, ρ[i]? = some (some (RV.o ds)) ∧ σ[i]? = some (some (.ref a))
structure SR (K : PySem.W.Frag) (H0 : Hp) (Av0 : Addr → Prop) (cs : List Addr) (Av : Addr → Prop) (H : Hp) (σ : L2.St) (ρ : Rho) (st : Sto) : Prop where
  ok : AvOk cs Av H
  cl : Cl K cs Av H st
  en : En K cs Av H σ ρ
  ex : Ext cs H0 H
  low : ∀ a, Av0 a → ∃ o, H0 a = some o
  sub : ∀ a, Av0 a → Av a
  fr : ∀ i a, OwnAt σ ρ i a → H0 a = none
  inj : ∀ i j a, OwnAt σ ρ i a → OwnAt σ ρ j a → i = j
/-- from one place of a body to another -/
structure Stp (cs : List Addr) (Av : Addr → Prop) (H : Hp) (cs' : List Addr) (Av' : Addr → Prop) (H' : Hp) : Prop where
  pre : ∃ e, cs' = cs ++ e
  ext : ExtP Av H H'
  grow : ∀ a, Av' a → Av a ∨ H a = none
section
variable {K : PySem.W.Frag} {cs cs' cs2 : List Addr} {Av0 Av Av' Av2 : Addr → Prop} {H0 H H' H1 H2 : Hp} {v : V} {vs : List V} {d : D} {ds : List D} {st st' : Sto} {σ σ' : L2.St} {ρ ρ' : Rho} {r : RV}
theorem Stp.refl : Stp cs Av H cs Av H := ⟨⟨[], by simp⟩, ExtP.refl, fun a h => .inl h⟩
theorem Stp.trans (a : Stp cs Av H cs' Av' H') (b : Stp cs' Av' H' cs2 Av2 H2) : Stp cs Av H cs2 Av2 H2 := by
  obtain ⟨e1, h1⟩ := a.pre
  obtain ⟨e2, h2⟩ := b.pre
  refine ⟨⟨e1 ++ e2, by rw [h2, h1, List.append_assoc]⟩, fun p o q n => ?_, fun p h => ?_⟩
  · refine b.ext p o (a.ext p o q n) fun z => ?_
    rcases a.grow p z with z | z
    · exact n z
    · rw [q] at z; cases z
  · rcases b.grow p h with z | z
    · exact a.grow p z
    · cases q : H p with
      | none => exact .inr rfl
      | some o =>
        by_cases hp : Av p
        · exact .inl hp
        · have := a.ext p o q hp
          rw [z] at this; cases this
theorem Stp.of_ext (ok : AvOk cs Av H) (e : Ext cs H H') : Stp cs Av H cs Av H' := ⟨⟨[], by simp⟩, e.p fun a h => ok.sub a h, fun a h => .inl h⟩
/-- an expression has run -/
theorem SR.ext (s : SR K H0 Av0 cs Av H σ ρ st) (e : Ext cs H H') (cl : Cl K cs Av H' st') : SR K H0 Av0 cs Av H' σ ρ st' :=
  ⟨s.ok.ext e cl, cl, s.en.ext s.ok e, s.ex.trans e, s.low, s.sub, s.fr, s.inj⟩
mutual
theorem bind_own : ∀ {t : Tg} {d : D} {ρ ρ' : Rho} {j : Nat} {ds : List D}, bindTg t d ρ = some ρ' → ρ'[j]? = some (some (RV.o ds)) → ρ[j]? = some (some (RV.o ds)) ∧ j ∉ slotsOf t
  | .nm i, d, ρ, ρ', j, ds, e, h => by
    simp only [bindTg] at e
    cases e
    by_cases hj : i = j
    · subst hj
      by_cases hl : i < ρ.length
      · rw [List.getElem?_set_self hl] at h; cases h
      · rw [List.getElem?_eq_none (by simpa using hl)] at h; cases h
    · rw [List.getElem?_set_ne hj] at h
      exact ⟨h, by simpa [slotsOf] using fun z => hj z.symm⟩
  | .tp ts, .tuple xs, ρ, ρ', j, ds, e, h => by
    have := binds_own (by simpa only [bindTg] using e) h
    simpa only [slotsOf] using this
  | .tp ts, .none, _, _, _, _, e, _ => by simp [bindTg] at e
  | .tp ts, .bool _, _, _, _, _, e, _ => by simp [bindTg] at e
  | .tp ts, .int _, _, _, _, _, e, _ => by simp [bindTg] at e
  | .tp ts, .str _, _, _, _, _, e, _ => by simp [bindTg] at e
  | .tp ts, .list _, _, _, _, _, e, _ => by simp [bindTg] at e
  | .tp ts, .dict _, _, _, _, _, e, _ => by simp [bindTg] at e
theorem binds_own : ∀ {t : Tgs} {d : List D} {ρ ρ' : Rho} {j : Nat} {ds : List D}, bindTgs t d ρ = some ρ' → ρ'[j]? = some (some (RV.o ds)) → ρ[j]? = some (some (RV.o ds)) ∧ j ∉ slotsOfs t
  | .nil, [], ρ, ρ', j, ds, e, h => by
    simp only [bindTgs] at e; cases e
    exact ⟨h, by simp [slotsOfs]⟩
  | .nil, _ :: _, _, _, _, _, e, _ => by simp [bindTgs] at e
  | .cons _ _, [], _, _, _, _, e, _ => by simp [bindTgs] at e
  | .cons t r, d :: xs, ρ, ρ', j, ds, e, h => by
    simp only [bindTgs] at e
    split at e
    · rename_i ρ1 h1
      obtain ⟨a1, a2⟩ := binds_own e h
      obtain ⟨b1, b2⟩ := bind_own h1 a1
      exact ⟨b1, by simp [slotsOfs, a2, b2]⟩
    · cases e
end
/-- a target has been bound -/
theorem SR.bind {t : Tg} (s : SR K H0 Av0 cs Av H σ ρ st) (hb : bindTg t d ρ = some ρ') (ap : Apart (slotsOf t) σ σ') (en : En K cs Av H σ' ρ') : SR K H0 Av0 cs Av H σ' ρ' st := by
  have key : ∀ i a, OwnAt σ' ρ' i a → OwnAt σ ρ i a := fun i a ⟨ds, h1, h2⟩ => by
    obtain ⟨h3, h4⟩ := bind_own hb h1
    exact ⟨ds, h3, by rw [← ap.at_ i h4]; exact h2⟩
  exact ⟨s.ok, s.cl, en, s.ex, s.low, s.sub, fun i a h => s.fr i a (key i a h), fun i j a h h' => s.inj i j a (key i a h) (key j a h')⟩
/-- data into a slot -/
theorem SR.setV (s : SR K H0 Av0 cs Av H σ ρ st) (i : Nat) (r : Rp K cs Av H v d) : SR K H0 Av0 cs Av H (σ.set i (some v)) (ρ.set i (some (.v d))) st :=
  s.bind (t := .nm i) (d := d) (by simp only [bindTg]) (by simpa only [slotsOf] using Apart.set i _) (s.en.setV i r)
theorem own_lst (en : En K cs Av H σ ρ) {i : Nat} {a : Addr} (h : OwnAt σ ρ i a) : ∃ vs, H a = some (.lst vs) ∧ Av a ∧ a ∉ cs := by
  obtain ⟨ds, h1, h2⟩ := h
  obtain ⟨b, vs, e1, e2, e3, e4, _⟩ := slot_o en h1
  rw [h2] at e1
  cases e1
  exact ⟨vs, e4, e2, e3⟩
theorem en_new (en : En K cs Av H σ ρ) (ok : AvOk cs Av H) {a : Addr} (h0 : H a = none) (e : Ext cs H H') : En K cs (add Av a) H' σ ρ := by
  have hav : ∀ b, add Av a b → Av b ∨ H b = none := fun b hb => hb.imp id fun z => by rw [z]; exact h0
  refine ⟨en.len, fun i => ?_⟩
  exact ((en.at_ i).av hav (fun b h => .inl h)).p (ok.avd fun b h => .inl h) e.pc (fun b h => h)
/-- a new list, which a slot is to own -/
theorem SR.own0 (s : SR K H0 Av0 cs Av H σ ρ st) (e : Ext cs H H') (cl : Cl K cs Av H' st') {a : Addr} (r : RpS K cs Av H H' st' (.ref a) (.o ds)) :
    H a = none ∧ a ∉ cs ∧ H0 a = none ∧ SR K H0 Av0 cs (add Av a) H' σ ρ st' ∧ Stp cs Av H cs (add Av a) H' ∧ ∃ vs, H' a = some (.lst vs) ∧ Rps K cs (add Av a) H' vs ds := by
  obtain ⟨⟨b, vs, e1, h0, h1, rs⟩, hc⟩ := r
  cases e1
  have na : a ∉ cs := fun z => by
    obtain ⟨xs, q⟩ := s.ok.lst a (s.ok.sub a z)
    rw [h0] at q; cases q
  have h00 : H0 a = none := by
    cases q : H0 a with
    | none => rfl
    | some o => have := s.ex a o q na; rw [h0] at this; cases this
  exact ⟨h0, na, h00, ⟨(s.ok.ext e cl).add h1, hc a ds rfl rfl, en_new s.en s.ok h0 e, s.ex.trans e, s.low, fun b h => .inl (s.sub b h), s.fr, s.inj⟩,
    ⟨⟨[], by simp⟩, e.p fun b h => s.ok.sub b h, fun b h => h.imp id fun z => by rw [z]; exact h0⟩, vs, h1, rs⟩
theorem SR.setO (s : SR K H0 Av0 cs Av H σ ρ st) (i : Nat) {a : Addr} (hA : Av a) (na : a ∉ cs) (h0 : H0 a = none) (hn : ∀ j, ¬ OwnAt σ ρ j a) (h1 : H a = some (.lst vs)) (rs : Rps K cs Av H vs ds) :
    SR K H0 Av0 cs Av H (σ.set i (some (.ref a))) (ρ.set i (some (.o ds))) st := by
  have key : ∀ j b, OwnAt (σ.set i (some (.ref a))) (ρ.set i (some (.o ds))) j b → (j = i ∧ b = a) ∨ (j ≠ i ∧ OwnAt σ ρ j b) := fun j b ⟨es, q1, q2⟩ => by
    by_cases hj : i = j
    · subst hj
      by_cases hl : i < σ.length
      · rw [List.getElem?_set_self hl] at q2
        cases q2
        exact .inl ⟨rfl, rfl⟩
      · rw [List.getElem?_eq_none (by simpa using hl)] at q2; cases q2
    · rw [List.getElem?_set_ne hj] at q1 q2
      exact .inr ⟨fun z => hj z.symm, es, q1, q2⟩
  refine ⟨s.ok, s.cl, ⟨by simp [s.en.len], fun j => ?_⟩, s.ex, s.low, s.sub, fun j b h => ?_, fun j k b h h' => ?_⟩
  · by_cases hj : i = j
    · subst hj
      by_cases hl : i < ρ.length
      · have hl' : i < σ.length := by rw [s.en.len]; exact hl
        rw [List.getElem?_set_self hl, List.getElem?_set_self hl']
        exact ⟨a, vs, rfl, hA, na, h1, rs⟩
      · rw [List.getElem?_eq_none (l := ρ.set i _) (by simpa using hl)]; trivial
    · rw [List.getElem?_set_ne hj, List.getElem?_set_ne hj]
      exact s.en.at_ j
  · rcases key j b h with ⟨_, rfl⟩ | ⟨_, h⟩
    · exact h0
    · exact s.fr j b h
  · rcases key j b h with ⟨rfl, rfl⟩ | ⟨h2, h⟩
    · rcases key k b h' with ⟨rfl, _⟩ | ⟨_, h'⟩
      · rfl
      · exact absurd h' (hn k)
    · rcases key k b h' with ⟨e1, e2⟩ | ⟨_, h'⟩
      · exact absurd (by rw [← e2]; exact h) (hn j)
      · exact s.inj j k b h h'
/-- a new list goes into a slot -/
theorem SR.own (s : SR K H0 Av0 cs Av H σ ρ st) (e : Ext cs H H') (cl : Cl K cs Av H' st') {a : Addr} (r : RpS K cs Av H H' st' (.ref a) (.o ds)) (i : Nat) :
    SR K H0 Av0 cs (add Av a) H' (σ.set i (some (.ref a))) (ρ.set i (some (.o ds))) st' ∧ Stp cs Av H cs (add Av a) H' := by
  obtain ⟨h0, na, h00, s', sp, vs, h1, rs⟩ := s.own0 e cl r
  refine ⟨s'.setO i (.inr rfl) na h00 (fun j h => ?_) h1 rs, sp⟩
  obtain ⟨ws, q, _⟩ := own_lst s.en h
  rw [h0] at q; cases q
/-- a list that a slot owns is data from now on -/
theorem SR.freeze (s : SR K H0 Av0 cs Av H σ ρ st) {i : Nat} (hi : ρ[i]? = some (some (RV.o ds))) :
    ∃ Av', SR K H0 Av0 cs Av' H σ (ρ.set i (some (.v (.list ds)))) st ∧ Stp cs Av H cs Av' H := by
  obtain ⟨a, vs, e1, e2, e3, e4, e5⟩ := slot_o s.en hi
  have oa : OwnAt σ ρ i a := ⟨ds, hi, e1⟩
  have hl : i < ρ.length := by
    rcases Nat.lt_or_ge i ρ.length with h | h
    · exact h
    · rw [List.getElem?_eq_none h] at hi; cases hi
  let Av' : Addr → Prop := fun b => Av b ∧ b ≠ a
  have hav : ∀ b, Av' b → Av b ∨ H b = none := fun b h => .inl h.1
  have h0 := s.fr i a oa
  have key : ∀ j b, OwnAt σ (ρ.set i (some (.v (.list ds)))) j b → j ≠ i ∧ OwnAt σ ρ j b := fun j b ⟨es, q1, q2⟩ => by
    by_cases hj : i = j
    · subst hj
      rw [List.getElem?_set_self hl] at q1; cases q1
    · rw [List.getElem?_set_ne hj] at q1
      exact ⟨fun z => hj z.symm, es, q1, q2⟩
  refine ⟨Av', ⟨⟨fun b hb => ⟨s.ok.sub b hb, fun z => e3 (by rw [← z]; exact hb)⟩, fun b hb => s.ok.lst b hb.1⟩, s.cl.av hav, ⟨by simp [s.en.len], fun j => ?_⟩, s.ex, s.low, fun b hb => ⟨s.sub b hb, fun z => ?_⟩, fun j b h => s.fr j b (key j b h).2, fun j k b h h' => s.inj j k b (key j b h).2 (key k b h').2⟩, ⟨[], by simp⟩, ExtP.refl, hav⟩
  · by_cases hj : i = j
    · subst hj
      rw [List.getElem?_set_self hl]
      exact ⟨.ref a, e1, .lst (.inl fun z => z.2 rfl) (SqL.of e4) (e5.av hav)⟩
    · rw [List.getElem?_set_ne hj]
      have := s.en.at_ j
      match h : ρ[j]? with
      | none => trivial
      | some none => trivial
      | some (some (.v dd)) =>
        rw [h] at this
        obtain ⟨x, q1, q2⟩ := this
        exact ⟨x, q1, q2.av hav⟩
      | some (some (.o es)) =>
        rw [h] at this
        obtain ⟨b, ws, q1, q2, q3, q4, q5⟩ := this
        exact ⟨b, ws, q1, ⟨q2, fun z => hj (s.inj i j b (by rw [z]; exact oa) ⟨es, h, q1⟩)⟩, q3, q4, q5.av hav⟩
  · obtain ⟨o, q⟩ := s.low b hb
    rw [z, h0] at q; cases q
/-- a list that a slot owns is written -/
theorem SR.mut (s : SR K H0 Av0 cs Av H σ ρ st) {i : Nat} {a : Addr} {ds' : List D} {ws : List V} (hi : ρ[i]? = some (some (RV.o ds))) (ha : σ[i]? = some (some (.ref a))) (rs : Rps K cs Av H ws ds') :
    SR K H0 Av0 cs Av (upd H a (.lst ws)) σ (ρ.set i (some (.o ds'))) st ∧ Stp cs Av H cs Av (upd H a (.lst ws)) := by
  obtain ⟨a', vs, e1, e2, e3, e4, e5⟩ := slot_o s.en hi
  rw [ha] at e1
  cases e1
  have oa : OwnAt σ ρ i a := ⟨ds, hi, ha⟩
  have hl : i < ρ.length := by
    rcases Nat.lt_or_ge i ρ.length with h | h
    · exact h
    · rw [List.getElem?_eq_none h] at hi; cases hi
  have ap : Avd Av (· = a) H := ⟨fun b h => by rw [h]; exact e2, fun b h => by rw [h]; exact ⟨_, e4⟩⟩
  have ex : ExtP (· = a) H (upd H a (.lst ws)) := fun b o e ne => by rw [upd_ne ne]; exact e
  have h0 := s.fr i a oa
  have key : ∀ j b, OwnAt σ (ρ.set i (some (.o ds'))) j b → OwnAt σ ρ j b := fun j b ⟨es, q1, q2⟩ => by
    by_cases hj : i = j
    · subst hj; exact ⟨ds, hi, q2⟩
    · rw [List.getElem?_set_ne hj] at q1
      exact ⟨es, q1, q2⟩
  refine ⟨⟨⟨s.ok.sub, fun b hb => ?_⟩, ⟨s.cl.len, s.cl.nd, fun n b es q1 q2 => ?_⟩, ⟨by simp [s.en.len], fun j => ?_⟩, fun b o q n => ?_, s.low, s.sub, fun j b h => s.fr j b (key j b h), fun j k b h h' => s.inj j k b (key j b h) (key k b h')⟩, ⟨[], by simp⟩, fun b o q n => ?_, fun b h => .inl h⟩
  · by_cases z : b = a
    · rw [z]; exact ⟨_, upd_same ..⟩
    · rw [upd_ne z]; exact s.ok.lst b hb
  · obtain ⟨us, q3, q4⟩ := s.cl.at_ n b es q1 q2
    have ne : b ≠ a := fun z => e3 (by rw [← z]; exact List.mem_of_getElem? q1)
    exact ⟨us, by rw [upd_ne ne]; exact q3, q4.p ap ex⟩
  · by_cases hj : i = j
    · subst hj
      rw [List.getElem?_set_self hl]
      exact ⟨a, ws, ha, e2, e3, upd_same .., rs.p ap ex⟩
    · rw [List.getElem?_set_ne hj]
      have := s.en.at_ j
      match h : ρ[j]? with
      | none => trivial
      | some none => trivial
      | some (some (.v dd)) =>
        rw [h] at this
        obtain ⟨x, q1, q2⟩ := this
        exact ⟨x, q1, q2.p ap ex⟩
      | some (some (.o es)) =>
        rw [h] at this
        obtain ⟨b, us, q1, q2, q3, q4, q5⟩ := this
        have ne : b ≠ a := fun z => hj (s.inj i j a oa (by rw [← z]; exact ⟨es, h, q1⟩))
        exact ⟨b, us, q1, q2, q3, by rw [upd_ne ne]; exact q4, q5.p ap ex⟩
  · rw [upd_ne (ne_of_none q h0)]; exact s.ex b o q n
  · rw [upd_ne (fun z => n (by rw [z]; exact e2))]; exact q
/-- a cell is written -/
theorem SR.cell (s : SR K H0 Av0 cs Av H σ ρ st) {n : Nat} {a : Addr} {ds' : List D} {ws : List V} (hn : cs[n]? = some a) (hs : n < st.length) (rs : Rps K cs Av H ws ds') :
    SR K H0 Av0 cs Av (upd H a (.lst ws)) σ ρ (st.set n ds') ∧ Stp cs Av H cs Av (upd H a (.lst ws)) := by
  have hm : a ∈ cs := List.mem_of_getElem? hn
  obtain ⟨vs, e4, e5⟩ := s.cl.at_ n a _ hn (List.getElem?_eq_getElem hs)
  have e2 := s.ok.sub a hm
  have ap : Avd Av (· = a) H := ⟨fun b h => by rw [h]; exact e2, fun b h => by rw [h]; exact ⟨_, e4⟩⟩
  have ex : ExtP (· = a) H (upd H a (.lst ws)) := fun b o e ne => by rw [upd_ne ne]; exact e
  refine ⟨⟨⟨s.ok.sub, fun b hb => ?_⟩, ⟨by simp [s.cl.len], s.cl.nd, fun m b es q1 q2 => ?_⟩, ⟨s.en.len, fun j => ?_⟩, fun b o q n => ?_, s.low, s.sub, s.fr, s.inj⟩, ⟨[], by simp⟩, fun b o q n => ?_, fun b h => .inl h⟩
  · by_cases z : b = a
    · rw [z]; exact ⟨_, upd_same ..⟩
    · rw [upd_ne z]; exact s.ok.lst b hb
  · by_cases hmn : n = m
    · subst hmn
      rw [hn] at q1
      cases q1
      rw [List.getElem?_set_self hs] at q2
      cases q2
      exact ⟨ws, upd_same .., rs.p ap ex⟩
    · rw [List.getElem?_set_ne hmn] at q2
      obtain ⟨us, q3, q4⟩ := s.cl.at_ m b es q1 q2
      have ne : b ≠ a := fun z => hmn (by
        subst z
        obtain ⟨l1, g1⟩ := List.getElem?_eq_some_iff.mp hn
        obtain ⟨l2, g2⟩ := List.getElem?_eq_some_iff.mp q1
        exact (List.getElem_inj s.cl.nd).mp (g1.trans g2.symm))
      exact ⟨us, by rw [upd_ne ne]; exact q3, q4.p ap ex⟩
  · have := s.en.at_ j
    match h : ρ[j]? with
    | none => trivial
    | some none => trivial
    | some (some (.v dd)) =>
      rw [h] at this
      obtain ⟨x, q1, q2⟩ := this
      exact ⟨x, q1, q2.p ap ex⟩
    | some (some (.o es)) =>
      rw [h] at this
      obtain ⟨b, us, q1, q2, q3, q4, q5⟩ := this
      have ne : b ≠ a := fun z => q3 (by rw [z]; exact hm)
      exact ⟨b, us, q1, q2, q3, by rw [upd_ne ne]; exact q4, q5.p ap ex⟩
  · rw [upd_ne (fun z => n (by rw [z]; exact hm))]; exact s.ex b o q n
  · rw [upd_ne (fun z => n (by rw [z]; exact e2))]; exact q
mutual
theorem Rp.cs {e : List Addr} : ∀ {v : V} {d : D}, Rp K cs Av H v d → Rp K (cs ++ e) Av H v d
  | _, _, .non => .non
  | _, _, .bl b => .bl b
  | _, _, .int i => .int i
  | _, _, .str x => .str x
  | _, _, .lst na h r => .lst na h (Rps.cs r)
  | _, _, .tup h r => .tup h (Rps.cs r)
  | _, _, .cell h => .cell (by
      obtain ⟨l, g⟩ := List.getElem?_eq_some_iff.mp h
      rw [List.getElem?_append_left l]; exact h)
  | _, _, .dct h h0 hl r hk => .dct h h0 hl (Rps.cs r) hk
  | _, _, .dct0 h => .dct0 h
theorem Rps.cs {e : List Addr} : ∀ {vs : List V} {ds : List D}, Rps K cs Av H vs ds → Rps K (cs ++ e) Av H vs ds
  | _, _, .nil => .nil
  | _, _, .cons r t => .cons (Rp.cs r) (Rps.cs t)
end
/-- a list that a slot owns becomes a shared cell -/
theorem SR.mkcell (s : SR K H0 Av0 cs Av H σ ρ st) {i : Nat} (hi : ρ[i]? = some (some (RV.o ds))) :
    ∃ a, SR K H0 Av0 (cs ++ [a]) Av H σ (ρ.set i (some (.v (.dict [(.none, .int st.length)])))) (st ++ [ds]) ∧ Stp cs Av H (cs ++ [a]) Av H := by
  obtain ⟨a, vs, e1, e2, e3, e4, e5⟩ := slot_o s.en hi
  have oa : OwnAt σ ρ i a := ⟨ds, hi, e1⟩
  have hl : i < ρ.length := by
    rcases Nat.lt_or_ge i ρ.length with h | h
    · exact h
    · rw [List.getElem?_eq_none h] at hi; cases hi
  have key : ∀ j b, OwnAt σ (ρ.set i (some (.v (.dict [(.none, .int st.length)])))) j b → j ≠ i ∧ OwnAt σ ρ j b := fun j b ⟨es, q1, q2⟩ => by
    by_cases hj : i = j
    · subst hj
      rw [List.getElem?_set_self hl] at q1; cases q1
    · rw [List.getElem?_set_ne hj] at q1
      exact ⟨fun z => hj z.symm, es, q1, q2⟩
  refine ⟨a, ⟨⟨fun b hb => ?_, s.ok.lst⟩, ⟨by simp [s.cl.len], ?_, fun n b es q1 q2 => ?_⟩, ⟨by simp [s.en.len], fun j => ?_⟩, fun b o q n => s.ex b o q (fun z => n (by simp [z])), s.low, s.sub, fun j b h => s.fr j b (key j b h).2, fun j k b h h' => s.inj j k b (key j b h).2 (key k b h').2⟩, ⟨[a], rfl⟩, ExtP.refl, fun b h => .inl h⟩
  · rcases List.mem_append.mp hb with hb | hb
    · exact s.ok.sub b hb
    · rw [List.mem_singleton.mp hb]; exact e2
  · rw [List.nodup_append]
    exact ⟨s.cl.nd, by simp, fun x hx y hy => by rw [List.mem_singleton.mp hy]; exact fun z => e3 (by rw [← z]; exact hx)⟩
  · by_cases hn : n < cs.length
    · rw [List.getElem?_append_left hn] at q1
      rw [List.getElem?_append_left (by rw [← s.cl.len]; exact hn)] at q2
      obtain ⟨us, q3, q4⟩ := s.cl.at_ n b es q1 q2
      exact ⟨us, q3, q4.cs⟩
    · have hn' : cs.length ≤ n := Nat.le_of_not_lt hn
      rw [List.getElem?_append_right hn'] at q1
      rw [List.getElem?_append_right (by rw [← s.cl.len]; exact hn'), ← s.cl.len] at q2
      obtain ⟨m, hm⟩ : ∃ m, n - cs.length = m := ⟨_, rfl⟩
      rw [hm] at q1 q2
      cases m with
      | zero => simp at q1 q2; subst q1; subst q2; exact ⟨vs, e4, e5.cs⟩
      | succ m => simp at q1
  · by_cases hj : i = j
    · subst hj
      rw [List.getElem?_set_self hl]
      exact ⟨.ref a, e1, .cell (by rw [← s.cl.len]; simp)⟩
    · rw [List.getElem?_set_ne hj]
      have := s.en.at_ j
      match h : ρ[j]? with
      | none => trivial
      | some none => trivial
      | some (some (.v dd)) =>
        rw [h] at this
        obtain ⟨x, q1, q2⟩ := this
        exact ⟨x, q1, q2.cs⟩
      | some (some (.o es)) =>
        rw [h] at this
        obtain ⟨b, us, q1, q2, q3, q4, q5⟩ := this
        refine ⟨b, us, q1, q2, fun z => ?_, q4, q5.cs⟩
        rcases List.mem_append.mp z with z | z
        · exact q3 z
        · exact hj (s.inj i j b (by rw [List.mem_singleton.mp z]; exact oa) ⟨es, h, q1⟩)
end
end Ev

set_option Elab.async false
set_option linter.all false
set_option maxRecDepth 100000
set_option maxHeartbeats 4000000
/-! Statements: the look, and the small forms. -/
namespace Ev
open PySem PySem.Spec PyProof.Rows L2

/-! ### what a statement is -/
def getExpr : Stmt → Option Expr
  | .Expr e _ => some e
  | _ => none
def getAsgN : Stmt → Option (Str × Expr)
  | .Assign [.Name x _] e _ => some (x, e)
  | _ => none
def getAsgT : Stmt → Option (Expr × Expr)
  | .Assign [.Tuple es k p] e _ => some (.Tuple es k p, e)
  | _ => none
def getPar2 : Stmt → Option ((Str × Pos) × (Str × Pos) × Expr × Expr)
  | .Assign [.Tuple [.Name x px, .Name y py] _ _] (.Tuple [a, b] _ _) _ => some ((x, px), (y, py), a, b)
  | _ => none
def getPar3 : Stmt → Option ((Str × Pos) × (Str × Pos) × (Str × Pos) × Expr × Expr × Expr)
  | .Assign [.Tuple [.Name x px, .Name y py, .Name z pz] _ _] (.Tuple [a, b, c] _ _) _ => some ((x, px), (y, py), (z, pz), a, b, c)
  | _ => none
def getSet : Stmt → Option (Str × Expr × Expr)
  | .Assign [.Subscript (.Name x _) ix _] e _ => some (x, ix, e)
  | _ => none
def getSet2 : Stmt → Option ((Str × Expr) × (Str × Expr) × Expr × Expr)
  | .Assign [.Tuple [.Subscript (.Name x _) i1 _, .Subscript (.Name y _) i2 _] _ _] (.Tuple [a, b] _ _) _ => some ((x, i1), (y, i2), a, b)
  | _ => none
def getMeth : Stmt → Option (Str × Str × Pos × Expr × Pos)
  | .Expr (.Call (.Attribute (.Name x _) m ap) [e] [] cp) _ => some (x, m, ap, e, cp)
  | _ => none
def getRet : Stmt → Option Expr
  | .Return (some e) _ => some e
  | _ => none
def getIf : Stmt → Option (Expr × List Stmt × List Stmt)
  | .If c a b _ => some (c, a, b)
  | _ => none
def getFor : Stmt → Option (Expr × Expr × List Stmt)
  | .For t i b [] _ => some (t, i, b)
  | _ => none
def getWhile : Stmt → Option (Expr × List Stmt)
  | .While c b [] _ => some (c, b)
  | _ => none
def isBrk : Stmt → Bool
  | .Break _ => true
  | _ => false
def isCont : Stmt → Bool
  | .Continue _ => true
  | _ => false
section
variable {st : Stmt}
theorem getExpr_eq {e} (h : getExpr st = some e) : ∃ p, st = .Expr e p := by
  unfold getExpr at h; split at h <;> cases h; exact ⟨_, rfl⟩
theorem getAsgN_eq {x e} (h : getAsgN st = some (x, e)) : ∃ px p, st = .Assign [.Name x px] e p := by
  unfold getAsgN at h; split at h <;> cases h; exact ⟨_, _, rfl⟩
theorem getAsgT_eq {t e} (h : getAsgT st = some (t, e)) : ∃ es k p1 p, t = .Tuple es k p1 ∧ st = .Assign [.Tuple es k p1] e p := by
  unfold getAsgT at h; split at h <;> cases h; exact ⟨_, _, _, _, rfl, rfl⟩
theorem getPar2_eq {x px y py a b} (h : getPar2 st = some ((x, px), (y, py), a, b)) : ∃ kt pt k2 pt2 p, st = .Assign [.Tuple [.Name x px, .Name y py] kt pt] (.Tuple [a, b] k2 pt2) p := by
  unfold getPar2 at h; split at h <;> cases h; exact ⟨_, _, _, _, _, rfl⟩
theorem getPar3_eq {x px y py z pz a b c} (h : getPar3 st = some ((x, px), (y, py), (z, pz), a, b, c)) : ∃ kt pt k2 pt2 p, st = .Assign [.Tuple [.Name x px, .Name y py, .Name z pz] kt pt] (.Tuple [a, b, c] k2 pt2) p := by
  unfold getPar3 at h; split at h <;> cases h; exact ⟨_, _, _, _, _, rfl⟩
theorem getSet_eq {x ix e} (h : getSet st = some (x, ix, e)) : ∃ px sp p, st = .Assign [.Subscript (.Name x px) ix sp] e p := by
  unfold getSet at h; split at h <;> cases h; exact ⟨_, _, _, rfl⟩
theorem getSet2_eq {x i1 y i2 a b} (h : getSet2 st = some ((x, i1), (y, i2), a, b)) : ∃ px sp py sq kt pt k2 pt2 p, st = .Assign [.Tuple [.Subscript (.Name x px) i1 sp, .Subscript (.Name y py) i2 sq] kt pt] (.Tuple [a, b] k2 pt2) p := by
  unfold getSet2 at h; split at h <;> cases h; exact ⟨_, _, _, _, _, _, _, _, _, rfl⟩
theorem getMeth_eq {x m ap e cp} (h : getMeth st = some (x, m, ap, e, cp)) : ∃ px p, st = .Expr (.Call (.Attribute (.Name x px) m ap) [e] [] cp) p := by
  unfold getMeth at h; split at h <;> cases h; exact ⟨_, _, rfl⟩
theorem getRet_eq {e} (h : getRet st = some e) : ∃ p, st = .Return (some e) p := by
  unfold getRet at h; split at h <;> cases h; exact ⟨_, rfl⟩
theorem getIf_eq {c a b} (h : getIf st = some (c, a, b)) : ∃ p, st = .If c a b p := by
  unfold getIf at h; split at h <;> cases h; exact ⟨_, rfl⟩
theorem getFor_eq {t i b} (h : getFor st = some (t, i, b)) : ∃ p, st = .For t i b [] p := by
  unfold getFor at h; split at h <;> cases h; exact ⟨_, rfl⟩
theorem getWhile_eq {c b} (h : getWhile st = some (c, b)) : ∃ p, st = .While c b [] p := by
  unfold getWhile at h; split at h <;> cases h; exact ⟨_, rfl⟩
theorem isBrk_eq (h : isBrk st = true) : ∃ p, st = .Break p := by
  cases st <;> first | exact ff h | exact ⟨_, rfl⟩
theorem isCont_eq (h : isCont st = true) : ∃ p, st = .Continue p := by
  cases st <;> first | exact ff h | exact ⟨_, rfl⟩
end
/-! ### the look -/
def noComp : Expr → Bool
  | .ListComp .. => false
  | .SetComp .. => false
  | .DictComp .. => false
  | _ => true
def isLc (sc : Scope) (x : Str) : Bool := match sc.names.lookup x with
  | some .local => true | some .cell => true | _ => false
def isLoc1 (sc : Scope) (x : Str) : Bool := match sc.names.lookup x with
  | some .local => true | _ => false
/-- a tuple display on the right that is folded, or no display -/
def tupOk : Expr → Bool
  | .Tuple vs _ _ => vs.all (foldedForSure 8)
  | _ => true
def swOk (vs : List Expr) : Bool := !(vs.all (foldedForSure 8)) && !(vs.all (constantsAlone 8))
def chkNm (G : Ga) (sc : Scope) (i : Nat) (x : Str) : Bool := nmIs G.N i x && isLc sc x
/-- a name of the frame, read -/
def chkRd (G : Ga) (sc : Scope) (i : Nat) (x : Str) : Bool := nmIs G.N i x && isVis sc x && okN x
def chkMeth (G : Ga) (sc : Scope) (i : Nat) (ce : CE) (nm : Str) (st : Stmt) : Bool := match getMeth st with
  | some (x, m, ap, e, cp) => m == nm && (chkRd G sc i x && (plainE e && (chkE G sc false ce e && ap.endLine == cp.line)))
  | none => false
/-- x.append(y.pop(e)) -/
def getPop : Expr → Option (Str × Pos × Expr × Pos)
  | .Call (.Attribute (.Name y _) m bp) [e] [] cp => if m = ("pop" : Str) then some (y, bp, e, cp) else none
  | _ => none
def chkAP (G : Ga) (sc : Scope) (t i : Nat) (ce : CE) (st : Stmt) : Bool := match getMeth st with
  | some (x, m, ap, z, cp) => match getPop z with
    | some (y, bp, e, cp') => m == ("append" : Str) && (chkRd G sc t x && (chkRd G sc i y && (plainE e && (chkE G sc false ce e && (ap.endLine == cp.line && bp.endLine == cp'.line)))))
    | none => false
  | none => false
def chkPar (G : Ga) (sc : Scope) (is : List (Nat × Bool)) (es : CEs) (st : Stmt) : Bool := match is, es with
  | [(i, _), (j, _)], .cons false ca (.cons false cb .nil) => match getPar2 st with
    | some ((x, px), (y, py), a, b) => decide (i ≠ j) && (x != y && (nmIs G.N i x && (nmIs G.N j y && (isLoc1 sc x && (isLoc1 sc y && (px.line == py.line && (plainE a && (plainE b && (chkE G sc false ca a && (chkE G sc false cb b && swOk [a, b]))))))))))
    | none => false
  | [(i, _), (j, _), (l, _)], .cons false ca (.cons false cb (.cons false cc .nil)) => match getPar3 st with
    | some ((x, px), (y, py), (z, pz), a, b, c) => decide (i ≠ j) && (decide (i ≠ l) && (decide (j ≠ l) && (x != y && (x != z && (y != z && (nmIs G.N i x && (nmIs G.N j y && (nmIs G.N l z && (isLoc1 sc x && (isLoc1 sc y && (isLoc1 sc z && (px.line == py.line && (px.line == pz.line &&
        (plainE a && (plainE b && (plainE c && (chkE G sc false ca a && (chkE G sc false cb b && (chkE G sc false cc c && swOk [a, b, c])))))))))))))))))))
    | none => false
  | _, _ => false
def chkPn (G : Ga) (sc : Scope) : List (Nat × Bool) → List Expr → Bool
  | [], [] => true
  | (i, _) :: is, .Name x _ :: ts => nmIs G.N i x && (isLc sc x && chkPn G sc is ts)
  | _, _ => false
def celled (sc : Scope) : Expr → Bool
  | .Name x _ => !isLoc1 sc x
  | _ => true
def chkParC (G : Ga) (sc : Scope) (is : List (Nat × Bool)) (es : CEs) (st : Stmt) : Bool := match getAsgT st with
  | some (.Tuple ts _ _, .Tuple vs _ _) => chkPn G sc is ts && (chkAs G sc false es vs && (decide (ts.length ≤ 10) && (decide (vs.length = ts.length) && ts.any (celled sc))))
  | _ => false
mutual
def chkS (G : Ga) (sc : Scope) : CS → Stmt → Bool
  | .expr ce, st => match getExpr st with
    | some e => chkE G sc false ce e && noComp e
    | none => false
  | .asg (.nm i) ce, st => match getAsgN st with
    | some (x, e) => chkNm G sc i x && chkE G sc false ce e
    | none => false
  | .asg (.tp ts) ce, st => match getAsgT st with
    | some (t, e) => chkT G (fun _ => true) sc (.tp ts) t && (chkE G sc false ce e && tupOk e)
    | none => false
  | .asgO i ce, st => match getAsgN st with
    | some (x, e) => chkNm G sc i x && chkE G sc false ce e
    | none => false
  | .par is es, st => chkPar G sc is es st || chkParC G sc is es st
  | .setS i cx ce, st => match getSet st with
    | some (x, ix, e) => chkRd G sc i x && (chkE G sc false cx ix && (chkE G sc false ce e && plainSub ix))
    | none => false
  | .setS2 i c1 c2 ce1 ce2, st => match getSet2 st with
    | some ((x, i1), (y, i2), e1, e2) => chkRd G sc i x && (chkRd G sc i y && (chkE G sc false c1 i1 && (chkE G sc false c2 i2 && (chkE G sc false ce1 e1 && (chkE G sc false ce2 e2 && (plainSub i1 && (plainSub i2 && (plainE e1 && plainE e2))))))))
    | none => false
  | .setC i cx ce, st => match getSet st with
    | some (x, ix, e) => chkRd G sc i x && (chkE G sc false cx ix && (chkE G sc false ce e && plainSub ix))
    | none => false
  | .app i ce, st => chkMeth G sc i ce "append" st
  | .ext i ce, st => chkMeth G sc i ce "extend" st
  | .popAt i ce, st => chkMeth G sc i ce "pop" st
  | .appPop t i ce, st => chkAP G sc t i ce st
  | .ret ce, st => match getRet st with
    | some e => chkE G sc false ce e
    | none => false
  | .retO i, st => match getRet st with
    | some (.Name x _) => chkRd G sc i x
    | _ => false
  | .ite c a b, st => match getIf st with
    | some (e, sa, sb) => chkE G sc false c e && (chkSs G sc a sa && chkSs G sc b sb)
    | none => false
  | .for_ t it b, st => match getFor st with
    | some (te, ie, sb) => chkT G (fun _ => true) sc t te && (chkI G sc false it te ie && (itOk ie && chkSs G sc b sb))
    | none => false
  | .while_ c b, st => match getWhile st with
    | some (e, sb) => chkE G sc false c e && chkSs G sc b sb
    | none => false
  | .brk, st => isBrk st
  | .cont, st => isCont st
  | .bad, _ => true
  | .freeze _, _ => false
  | .mkcell _, _ => false
def chkSs (G : Ga) (sc : Scope) : CSs → List Stmt → Bool
  | .nil, [] => true
  | .cons (.freeze _) r, l => chkSs G sc r l
  | .cons (.mkcell _) r, l => chkSs G sc r l
  | .cons s r, st :: l => chkS G sc s st && chkSs G sc r l
  | _, _ => false
end

/-! ### the readings -/
structure Cq (G : Ga) (F : FT) (k : Nat) (X : Cx) : Prop where
  c : Cd G F k X
  hx : X.xe = fun _ _ => False
  fn : ∀ x, X.fn x = true
  kd : X.env.scope.kind = .function
def Post (K : PySem.W.Frag) (H0 : Hp) (Av0 : Addr → Prop) (cs : List Addr) (Av : Addr → Prop) (H : Hp) (D : Ends) : Fl → Prop
  | .nx ρ st => ∀ cs' Av' H' σ', Stp cs Av H cs' Av' H' → SR K H0 Av0 cs' Av' H' σ' ρ st → D.nx σ' H'
  | .bk ρ st => ∀ cs' Av' H' σ', Stp cs Av H cs' Av' H' → SR K H0 Av0 cs' Av' H' σ' ρ st → D.bk σ' H'
  | .ct ρ st => ∀ cs' Av' H' σ', Stp cs Av H cs' Av' H' → SR K H0 Av0 cs' Av' H' σ' ρ st → D.ct σ' H'
  | .rt r st => ∀ cs' Av' H' v, Stp cs Av H cs' Av' H' → Cl K cs' Av' H' st → Ext cs' H0 H' → (∀ a, Av0 a → Av' a) → RpS K cs' Av' H0 H' st v r → D.rt v H'
def tSt (K : PySem.W.Frag) (F : FT) (W : Nat) (s : CS) : TS := fun D σ H => ∃ (H0 : Hp) (Av0 : Addr → Prop) (cs : List Addr) (Av : Addr → Prop) (ρ : Rho) (st : Sto) (fl : Fl),
  SR K H0 Av0 cs Av H σ ρ st ∧ evS F W s ρ st = some fl ∧ Post K H0 Av0 cs Av H D fl
def tSs (K : PySem.W.Frag) (F : FT) (W : Nat) (s : CSs) : TS := fun D σ H => ∃ (H0 : Hp) (Av0 : Addr → Prop) (cs : List Addr) (Av : Addr → Prop) (ρ : Rho) (st : Sto) (fl : Fl),
  SR K H0 Av0 cs Av H σ ρ st ∧ evSs F W s ρ st = some fl ∧ Post K H0 Av0 cs Av H D fl
structure SS (G : Ga) (F : FT) (k W : Nat) (s : CS) : Prop where
  s : ∀ {X : Cx} {st : Stmt}, Cq G F k X → chkS G X.env.scope s st = true → PS X st (tSt X.K F W s)
structure SSs (G : Ga) (F : FT) (k W : Nat) (s : CSs) : Prop where
  s : ∀ {X : Cx} {l : List Stmt}, Cq G F k X → chkSs G X.env.scope s l = true → PSs X l (tSs X.K F W s)
section
variable {K : PySem.W.Frag} {cs cs' : List Addr} {Av0 Av Av' : Addr → Prop} {H0 H H' : Hp} {D : Ends} {fl : Fl}
theorem Post.step (a : Stp cs Av H cs' Av' H') (p : Post K H0 Av0 cs Av H D fl) : Post K H0 Av0 cs' Av' H' D fl := by
  cases fl with
  | nx ρ st => exact fun c2 A2 H2 σ2 s => p c2 A2 H2 σ2 (a.trans s)
  | bk ρ st => exact fun c2 A2 H2 σ2 s => p c2 A2 H2 σ2 (a.trans s)
  | ct ρ st => exact fun c2 A2 H2 σ2 s => p c2 A2 H2 σ2 (a.trans s)
  | rt r st => exact fun c2 A2 H2 v s => p c2 A2 H2 v (a.trans s)
theorem PSimp {X : Cx} {e : Stmt} {t t' : TS} (h : PS X e t) (i : ∀ D σ H, t' D σ H → t D σ H) : PS X e t' := ⟨fun pins s σ H D I hw => h.run pins s σ H D I (i D σ H hw)⟩
theorem PSsimp {X : Cx} {e : List Stmt} {t t' : TS} (h : PSs X e t) (i : ∀ D σ H, t' D σ H → t D σ H) : PSs X e t' := ⟨fun pins s σ H D I hw => h.run pins s σ H D I (i D σ H hw)⟩
end
section
variable {G : Ga} {F : FT} {k W : Nat} {X : Cx}
theorem Cq.hp (c : Cq G F k X) : PassesOwn (model X.prog X.w) X.A X.env X.xe := by
  rw [c.hx]
  exact PassesOwn.never
theorem swN {e : Expr} (h : noComp e = true) (o : Option Expr) (l : Nat) (env : Env) : swapsWith e o l env = pure false := by
  cases e <;> first | rfl | exact ff h
/-- an expression, from a place of the body -/
theorem ss_expr {ce : CE} : SS G F k W (.expr ce) := ⟨fun {X st} c h => by
  unfold chkS at h
  split at h
  · rename_i e hg
    obtain ⟨p, rfl⟩ := getExpr_eq hg
    simp only [Bool.and_eq_true] at h
    refine PSimp (ps_expr ((sE G F k ce).s c.c h.1) (swN h.2 _ _ _)) fun D σ H ⟨H0, Av0, cs, Av, ρ, st, fl, s, he, q⟩ => ?_
    simp only [evS] at he
    split at he
    · rename_i r st1 e1
      cases he
      exact ⟨cs, Av, ρ, st, r, st1, s.ok, s.cl, s.en, e1, fun v H' x c' rp => q cs Av H' σ (Stp.of_ext s.ok x) (s.ext x c')⟩
    · cases he
  · cases h⟩
theorem chkNm_of {i : Nat} {x : Str} (c : Cq G F k X) (h : chkNm G X.env.scope i x = true) : X.N[i]? = some x ∧ Loc X.env.scope x := by
  unfold chkNm at h
  simp only [Bool.and_eq_true] at h
  refine ⟨by rw [c.c.N]; exact nmIs_of h.1, ?_⟩
  have h2 := h.2
  unfold isLc at h2
  split at h2
  · exact .inl (by assumption)
  · exact .inr (by assumption)
  · cases h2
/-- name = e: e any expression, a comprehension too -/
theorem ps_name {i : Nat} {x : Str} {px p : Pos} {ce : CE} {e : Expr} (c : Cq G F k X) (hn : chkNm G X.env.scope i x = true) (he : chkE G X.env.scope false ce e = true) :
    PS X (.Assign [.Name x px] e p) (tAsg (tS X.K F ce) (gName i)) := by
  obtain ⟨h1, h2⟩ := chkNm_of c hn
  have hN : X.N.Nodup := by rw [c.c.N]; exact c.c.nd
  by_cases hc : noComp e = true
  · exact ps_set hN h1 h2 ((sE G F k ce).s c.c he) (swN hc _ _ _) (.inl (c.fn x))
  · cases e
    case ListComp y gs scope lp =>
      -- the walk of the comprehension, as a value or stored at once
      have sw : swapsWith (.ListComp y gs scope lp) (some (.Name x px)) p.line X.env = pure (X.env.blockKind == .function && X.env.kindOf x == some .local && px.line == lp.line && !(scope.names.any fun (n, k) => n == x && (k == .local || k == .cell))) := rfl
      cases hb : (X.env.blockKind == .function && X.env.kindOf x == some .local && px.line == lp.line && !(scope.names.any fun (n, k) => n == x && (k == .local || k == .cell))) with
      | false =>
        rw [hb] at sw
        exact ps_set hN h1 h2 ((sE G F k ce).s c.c he) sw (.inl (c.fn x))
      | true =>
        rw [hb] at sw
        simp only [Bool.and_eq_true] at hb
        have hl : X.env.scope.names.lookup x = some .local := by
          have := hb.1.1.2
          simpa [Env.kindOf] using this
        have finC : ∀ {own tg it ifs elt}, ce = .comp own tg it ifs elt → PS X (.Assign [.Name x px] (.ListComp y gs scope lp) p) (tAsg (tS X.K F ce) (gName i)) := fun {own tg it ifs elt} hce => by
          subst hce
          obtain ⟨y', t, i', fs, scope', p', e0, h1', h2', h3', h4', h5', h6', h7'⟩ := inv_comp he
          cases e0
          have hblk := blkOk_by (by rw [c.c.N]; exact h1' : blkC X.N X.env.scope scope (chkOwn G.N own) = true)
          refine PSimp (ps_setLc (own := chkOwn G.N own) c.c.calm hN h1 hl sw ((sI G F k it).i c.c h2') hblk (g := tG X.K tg) (tt := tF X.K F ifs) (te := tS X.K F elt)
            (fun s H C cl fp => tg_ok (fp := fun x => scope.names.lookup x == some .cell) (c.c.blk s H scope C cl fp) (fun x hx => hx) h4') (fun s H C cl fp => (sFs G F k ifs).f (c.c.blk s H scope C cl fp) h5') (fun s H C cl fp => (sE G F k elt).s (c.c.blk s H scope C cl fp) h6') (foldOk h7' _)) fun D σ H h' => ?_
          rw [own_map]
          exact comp_imp h3' (pr_tp h2' h4') h'
        have finC2 : ∀ {own tg it ifs tg1 it1 ifs1 elt}, ce = .comp2 own tg it ifs tg1 it1 ifs1 elt → PS X (.Assign [.Name x px] (.ListComp y gs scope lp) p) (tAsg (tS X.K F ce) (gName i)) := fun {own tg it ifs tg1 it1 ifs1 elt} hce => by
          subst hce
          obtain ⟨y', t, i', fs, t1, i1, fs1, scope', p', e0, h1', h2', h3', h4', h5', h6', h7', h8', h9', h10', h11', h12'⟩ := inv_comp2 he
          cases e0
          have hblk := blkOk_by (by rw [c.c.N]; exact h1' : blkC X.N X.env.scope scope (chkOwn G.N own) = true)
          refine PSimp (ps_setLc2 (own := chkOwn G.N own) (vs1 := slotsOf tg1) c.c.calm hN h1 hl sw ((sI G F k it).i c.c h2') hblk (by rw [own_map]; exact tgIn_of h7') (g := tG X.K tg) (tt := tF X.K F ifs) (wi1 := tI X.K F it1 false) (g1 := tG X.K tg1) (tt1 := tF X.K F ifs1) (te := tS X.K F elt)
            (fun s H C cl fp => tg_ok (fp := fun x => scope.names.lookup x == some .cell) (c.c.blk s H scope C cl fp) (fun x hx => hx) h4') (fun s H C cl fp => (sFs G F k ifs).f (c.c.blk s H scope C cl fp) h5')
            (fun s H C cl fp => (sI G F k it1).i (c.c.blk s H scope C cl fp) h6') (fun s H C cl fp => tg_ok (fp := fun x => scope.names.lookup x == some .cell) (c.c.blk s H scope C cl fp) (fun x hx => hx) h8') (fun s H C cl fp => (sFs G F k ifs1).f (c.c.blk s H scope C cl fp) h9')
            (fun s H C cl fp => (sE G F k elt).s (c.c.blk s H scope C cl fp) h10') (foldOk h11' _) (fun env => foldOk h12' env)) fun D σ H h' => ?_
          rw [own_map]
          exact comp2_imp h3' (pr_tp h2' h4') (pr_tp h6' h8') h'
        cases ce
        case comp => exact finC rfl
        case comp2 => exact finC2 rfl
        all_goals exact ff he
    all_goals first | exact absurd rfl hc | exact ff he | (cases ce <;> exact ff he)
end
end Ev

set_option Elab.async false
set_option linter.all false
set_option maxRecDepth 100000
set_option maxHeartbeats 4000000
/-! Statements, one rule for each form. -/
namespace Ev
open PySem PySem.Spec PyProof.Rows L2
section
variable {G : Ga} {F : FT} {k W : Nat} {X : Cx}
theorem chkRd_ok (c : Cq G F k X) {i : Nat} {x : Str} {p : Pos} (h : chkRd G X.env.scope i x = true) : PE X (.Name x p) (tVar i) := var_ok c.c h
theorem ss_asgN {i : Nat} {ce : CE} : SS G F k W (.asg (.nm i) ce) := ⟨fun {X st} c h => by
  unfold chkS at h
  split at h
  · rename_i x e hg
    obtain ⟨px, p, rfl⟩ := getAsgN_eq hg
    simp only [Bool.and_eq_true] at h
    refine PSimp (ps_name c h.1 h.2) fun D σ H ⟨H0, Av0, cs, Av, ρ, st, fl, s, he, q⟩ => ?_
    simp only [evS] at he
    split at he
    · rename_i r st1 e1
      simp only [bindTg] at he
      cases he
      refine ⟨cs, Av, ρ, st, r, st1, s.ok, s.cl, s.en, e1, fun v H' x c' rp => ?_⟩
      exact q cs Av H' _ (Stp.of_ext s.ok x) ((s.ext x c').setV i (rp.1.rp s.ok.there))
    · cases he
  · cases h⟩
theorem sw_tp {e : Expr} {es : List Expr} {kk : Nat} {p : Pos} (l : Nat) (env : Env) : swapsWithSole [.Tuple es kk p] e l env = pure false := by
  cases e <;> rfl
theorem swS_tp {e : Expr} {es : List Expr} {kk : Nat} {p : Pos} (h : tupOk e = true) (env : Env) : swappedStores [.Tuple es kk p] e env = pure none := by
  cases e
  case Tuple vs k2 p2 =>
    have h : vs.all (foldedForSure 8) = true := h
    unfold swappedStores
    simp only [h, if_true]
    repeat' split
    all_goals rfl
  all_goals rfl
theorem ss_asgT {ts : Tgs} {ce : CE} : SS G F k W (.asg (.tp ts) ce) := ⟨fun {X st} c h => by
  unfold chkS at h
  split at h
  · rename_i t e hg
    obtain ⟨es, kk, p1, p, rfl, rfl⟩ := getAsgT_eq hg
    simp only [Bool.and_eq_true] at h
    refine PSimp (ps_asg ((sE G F k ce).s c.c h.2.1) (tg_ok (fp := fun _ => true) c.c (fun x _ => c.fn x) h.1) (sw_tp _ _) (swS_tp h.2.2 _) rfl) fun D σ H ⟨H0, Av0, cs, Av, ρ, st, fl, s, he, q⟩ => ?_
    simp only [evS] at he
    split at he
    · rename_i r st1 e1
      split at he
      · rename_i ρ1 hb
        cases he
        refine ⟨cs, Av, ρ, st, r, st1, s.ok, s.cl, s.en, e1, fun v H' x c' rp => ?_⟩
        have s' := s.ext x c'
        exact ⟨cs, Av, ρ, r.d, ρ1, s'.en, (.inl (rp.1.rp s.ok.there)), hb, fun σ' ap en => q cs Av H' σ' (Stp.of_ext s.ok x) (s'.bind hb ap en)⟩
      · cases he
    · cases he
  · cases h⟩
theorem ss_asgO {i : Nat} {ce : CE} : SS G F k W (.asgO i ce) := ⟨fun {X st} c h => by
  unfold chkS at h
  split at h
  · rename_i x e hg
    obtain ⟨px, p, rfl⟩ := getAsgN_eq hg
    simp only [Bool.and_eq_true] at h
    refine PSimp (ps_name c h.1 h.2) fun D σ H ⟨H0, Av0, cs, Av, ρ, st, fl, s, he, q⟩ => ?_
    simp only [evS] at he
    split at he
    · rename_i ds st1 e1
      cases he
      refine ⟨cs, Av, ρ, st, .o ds, st1, s.ok, s.cl, s.en, e1, fun v H' x c' rp => ?_⟩
      obtain ⟨a, vs, rfl, _⟩ := rp.1
      obtain ⟨s', sp⟩ := s.own x c' rp i
      exact q cs _ H' _ sp s'
    · cases he
  · cases h⟩

/-! ### a, b = x, y -/
theorem isLoc1_of {sc : Scope} {x : Str} (h : isLoc1 sc x = true) : sc.names.lookup x = some .local := by
  unfold isLoc1 at h
  split at h
  · assumption
  · cases h
theorem blk_fn (c : Cq G F k X) : (X.env.blockKind != .function) = false := by
  unfold Env.blockKind
  rw [c.kd]
  rfl
def isStar : Expr → Bool
  | .Starred .. => true
  | _ => false
theorem notStar {e : Expr} (h : plainE e = true) : isStar e = false := by
  cases e <;> first | rfl | exact ff h
theorem kindOf_eq {env : Env} {x : Str} (h : env.scope.names.lookup x = some .local) : (env.kindOf x == some .local) = true := by
  unfold Env.kindOf
  rw [h]
  rfl
def nameAt (env : Env) (line : Nat) : Expr → Option Str
  | .Name id pos => if env.kindOf id == some .local && pos.line == line then some id else none
  | _ => none
theorem swS_gen {ts vs : List Expr} {kt k2 : Nat} {pt pt2 : Pos} {env : Env} {names : List Str} (hl : (!(ts.length == 2 || ts.length == 3) || vs.length != ts.length || env.blockKind != .function) = false) (hs : vs.any isStar = false)
    (hn : ts.filterMap (nameAt env ((ts.head?.map (·.pos.line)).getD 0)) = names) (hm : (names.length != ts.length || names.eraseDups.length != names.length) = false) (h1 : vs.all (foldedForSure 8) = false) (h2 : vs.all (constantsAlone 8) = false) :
    swappedStores [.Tuple ts kt pt] (.Tuple vs k2 pt2) env = pure (some names) := by
  have e : swappedStores [.Tuple ts kt pt] (.Tuple vs k2 pt2) env = (if (!(ts.length == 2 || ts.length == 3) || vs.length != ts.length || env.blockKind != .function) = true then pure none else if vs.any isStar = true then pure none else
    if ((ts.filterMap (nameAt env ((ts.head?.map (·.pos.line)).getD 0))).length != ts.length || (ts.filterMap (nameAt env ((ts.head?.map (·.pos.line)).getD 0))).eraseDups.length != (ts.filterMap (nameAt env ((ts.head?.map (·.pos.line)).getD 0))).length) = true then pure none else
    if vs.all (foldedForSure 8) = true then pure none else if vs.all (constantsAlone 8) = true then (do unsupported "assign.tuple-of-constant-expressions:order-of-the-stores"; pure (some (ts.filterMap (nameAt env ((ts.head?.map (·.pos.line)).getD 0))))) else pure (some (ts.filterMap (nameAt env ((ts.head?.map (·.pos.line)).getD 0))))) := by
    unfold swappedStores
    rfl
  rw [e, hn, hl, hs, hm, h1, h2]
  rfl
theorem swS_2 (c : Cq G F k X) {x y : Str} {px py pt pt2 : Pos} {kt k2 : Nat} {a b : Expr} (hxy : x ≠ y) (hx : X.env.scope.names.lookup x = some .local) (hy : X.env.scope.names.lookup y = some .local) (hl : (px.line == py.line) = true)
    (pa : plainE a = true) (pb : plainE b = true) (h : swOk [a, b] = true) : swappedStores [.Tuple [.Name x px, .Name y py] kt pt] (.Tuple [a, b] k2 pt2) X.env = pure (some [x, y]) := by
  unfold swOk at h
  simp only [Bool.and_eq_true, Bool.not_eq_true'] at h
  have hl' := eq_of_beq hl
  refine swS_gen (by simp [blk_fn c]) (by simp [notStar pa, notStar pb]) ?_ ?_ h.1 h.2
  · simp [nameAt, Expr.pos, eq_of_beq (kindOf_eq hx), eq_of_beq (kindOf_eq hy), hl']
  · simp [List.eraseDups_cons, hxy, Ne.symm hxy]
theorem swS_3 (c : Cq G F k X) {x y z : Str} {px py pz pt pt2 : Pos} {kt k2 : Nat} {a b d : Expr} (hxy : x ≠ y) (hxz : x ≠ z) (hyz : y ≠ z) (hx : X.env.scope.names.lookup x = some .local) (hy : X.env.scope.names.lookup y = some .local) (hz : X.env.scope.names.lookup z = some .local) (hl : (px.line == py.line) = true) (hm : (px.line == pz.line) = true)
    (pa : plainE a = true) (pb : plainE b = true) (pd : plainE d = true) (h : swOk [a, b, d] = true) : swappedStores [.Tuple [.Name x px, .Name y py, .Name z pz] kt pt] (.Tuple [a, b, d] k2 pt2) X.env = pure (some [x, y, z]) := by
  unfold swOk at h
  simp only [Bool.and_eq_true, Bool.not_eq_true'] at h
  have hl' := eq_of_beq hl
  have hm' := eq_of_beq hm
  refine swS_gen (by simp [blk_fn c]) (by simp [notStar pa, notStar pb, notStar pd]) ?_ ?_ h.1 h.2
  · simp [nameAt, Expr.pos, eq_of_beq (kindOf_eq hx), eq_of_beq (kindOf_eq hy), eq_of_beq (kindOf_eq hz), ← hl', ← hm']
  · simp [List.eraseDups_cons, hxy, Ne.symm hxy, hxz, Ne.symm hxz, hyz, Ne.symm hyz]
def setAll (σ : L2.St) : List (Nat × Bool) → List V → L2.St
  | (i, _) :: is, v :: vs => setAll (σ.set i (some v)) is vs
  | _, _ => σ
def tPr (K : PySem.W.Frag) (F : FT) (is : List (Nat × Bool)) (es : CEs) : TA := fun σ H Q => ∃ (H0 : Hp) (Av0 : Addr → Prop) (cs : List Addr) (Av : Addr → Prop) (ρ ρ1 ρ' : Rho) (σ1 : L2.St) (st st' : Sto),
  SR K H0 Av0 cs Av H σ ρ st ∧ SR K H0 Av0 cs Av H σ1 ρ1 st ∧ evPar F is es ρ ρ1 st = some (ρ', st') ∧ ∀ vs H' Av', vs.length = is.length → Stp cs Av H cs Av' H' → SR K H0 Av0 cs Av' H' (setAll σ1 is vs) ρ' st' → Q vs H'
theorem par_ok (c : Cq G F k X) : ∀ {is : List (Nat × Bool)} {es : CEs} {l : List Expr}, chkAs G X.env.scope false es l = true → PA X l (tPr X.K F is es)
  | is, .nil, [], _ => PAimp pa_nil fun σ H Q ⟨H0, Av0, cs, Av, ρ, ρ1, ρ', σ1, st, st', s, s1, he, q⟩ => by
    cases is with
    | nil =>
      simp only [evPar] at he
      cases he
      exact q [] H Av rfl Stp.refl s1
    | cons p r => obtain ⟨i, b⟩ := p; cases b <;> simp [evPar] at he
  | is, .nil, _ :: _, h => ff h
  | is, .cons true _ _, [], h => ff h
  | is, .cons true _ _, _ :: _, h => ff h
  | is, .cons false _ _, [], h => ff h
  | is, .cons false ce r, e :: l, h => by
    simp only [chkAs, Bool.and_eq_true] at h
    cases is with
    | nil =>
      refine PAimp (pa_cons ((sE G F k ce).s c.c h.1.2) (par_ok (is := []) c h.2) (star_plain h.1.1 _ _)) fun σ H Q ⟨H0, Av0, cs, Av, ρ, ρ1, ρ', σ1, st, st', s, s1, he, q⟩ => ?_
      simp [evPar] at he
    | cons p is =>
      obtain ⟨i, b⟩ := p
      refine PAimp (pa_cons ((sE G F k ce).s c.c h.1.2) (par_ok (is := is) c h.2) (star_plain h.1.1 _ _)) fun σ H Q ⟨H0, Av0, cs, Av, ρ, ρ1, ρ', σ1, st, st', s, s1, he, q⟩ => ?_
      cases b with
      | false =>
        simp only [evPar] at he
        split at he
        · rename_i x st1 e1
          refine ⟨cs, Av, ρ, st, x, st1, s.ok, s.cl, s.en, e1, fun v H1 x1 c1 r1 => ?_⟩
          have sp := Stp.of_ext s.ok x1
          refine ⟨H0, Av0, cs, Av, ρ, _, ρ', _, st1, st', s.ext x1 c1, (s1.ext x1 c1).setV i (r1.1.rp s.ok.there), he, fun vs H' Av' hl sp' s' => ?_⟩
          exact q (v :: vs) H' Av' (by simp [hl]) (sp.trans sp') s'
        · cases he
      | true =>
        simp only [evPar] at he
        split at he
        · rename_i ds st1 e1
          refine ⟨cs, Av, ρ, st, .o ds, st1, s.ok, s.cl, s.en, e1, fun v H1 x1 c1 r1 => ?_⟩
          obtain ⟨a, ws, rfl, _⟩ := id r1.1
          obtain ⟨_, _, _, s2, sp, _⟩ := s.own0 x1 c1 r1
          obtain ⟨s3, _⟩ := s1.own x1 c1 r1 i
          refine ⟨H0, Av0, cs, _, ρ, _, ρ', _, st1, st', s2, s3, he, fun vs H' Av' hl sp' s' => ?_⟩
          exact q (.ref a :: vs) H' Av' (by simp [hl]) (sp.trans sp') s'
        · cases he
/-! names of which one is a cell: stored from the left -/
theorem fm_lt {α β : Type} {f : α → Option β} : ∀ {l : List α}, (∃ a ∈ l, f a = none) → (l.filterMap f).length < l.length
  | [], ⟨_, h, _⟩ => nomatch h
  | x :: r, ⟨a, h, e⟩ => by
    cases hx : f x with
    | none =>
      rw [List.filterMap_cons_none hx]
      exact Nat.lt_succ_of_le (List.length_filterMap_le ..)
    | some y =>
      rw [List.filterMap_cons_some hx, List.length_cons, List.length_cons]
      have : ∃ a ∈ r, f a = none := by
        rcases List.mem_cons.mp h with rfl | h
        · rw [hx] at e; cases e
        · exact ⟨a, h, e⟩
      exact Nat.succ_lt_succ (fm_lt this)
theorem swS_none {ts vs : List Expr} {kt k2 : Nat} {pt pt2 : Pos} {env : Env} (h : ∃ t ∈ ts, celled env.scope t = true) : swappedStores [.Tuple ts kt pt] (.Tuple vs k2 pt2) env = pure none := by
  have e : swappedStores [.Tuple ts kt pt] (.Tuple vs k2 pt2) env = (if (!(ts.length == 2 || ts.length == 3) || vs.length != ts.length || env.blockKind != .function) = true then pure none else if vs.any isStar = true then pure none else
    if ((ts.filterMap (nameAt env ((ts.head?.map (·.pos.line)).getD 0))).length != ts.length || (ts.filterMap (nameAt env ((ts.head?.map (·.pos.line)).getD 0))).eraseDups.length != (ts.filterMap (nameAt env ((ts.head?.map (·.pos.line)).getD 0))).length) = true then pure none else
    if vs.all (foldedForSure 8) = true then pure none else if vs.all (constantsAlone 8) = true then (do unsupported "assign.tuple-of-constant-expressions:order-of-the-stores"; pure (some (ts.filterMap (nameAt env ((ts.head?.map (·.pos.line)).getD 0))))) else pure (some (ts.filterMap (nameAt env ((ts.head?.map (·.pos.line)).getD 0))))) := by
    unfold swappedStores
    rfl
  rw [e]
  have hl := fm_lt (f := nameAt env ((ts.head?.map (·.pos.line)).getD 0)) (l := ts) (by
    obtain ⟨t, ht, hc⟩ := h
    refine ⟨t, ht, ?_⟩
    cases t
    case Name x p =>
      have hc : (!isLoc1 env.scope x) = true := hc
      have : (env.kindOf x == some .local) = false := by
        unfold isLoc1 at hc
        unfold Env.kindOf
        split at hc
        · cases hc
        · rename_i h1
          exact beq_eq_false_iff_ne.mpr fun z => h1 z
      show (if (env.kindOf x == some .local && p.line == _) = true then some x else none) = none
      rw [this]
      rfl
    all_goals rfl)
  split
  · rfl
  · split
    · rfl
    · rw [if_pos]
      simp only [Bool.or_eq_true, bne_iff_ne, ne_eq]
      exact .inl (Nat.ne_of_lt hl)
def tPn (is : List (Nat × Bool)) : TGs := fun vs σ H Q => vs.length = is.length ∧ Q (setAll σ is vs) H
theorem pn_ok (c : Cq G F k X) : ∀ {is : List (Nat × Bool)} {ts : List Expr}, chkPn G X.env.scope is ts = true → PGs X ts (tPn is) ∧ ts.length = is.length ∧ (assignEach ts X.env).length = ts.length ∧ (assignEach ts X.env).findIdx? (·.1) = none
  | [], [], _ => ⟨PGsimp pgs_nil fun vs σ H Q ⟨hl, q⟩ => by
      have e : vs = [] := List.eq_nil_of_length_eq_zero hl
      subst e
      exact ⟨rfl, q⟩, rfl, rfl, rfl⟩
  | [], _ :: _, h => ff h
  | (i, b) :: is, [], h => ff h
  | (i, b) :: is, t :: ts, h => by
    cases t
    case Name x p =>
      have h' : (nmIs G.N i x && (isLc X.env.scope x && chkPn G X.env.scope is ts)) = true := h
      simp only [Bool.and_eq_true] at h'
      obtain ⟨h1, h2, h3⟩ := h'
      have hl : Loc X.env.scope x := by
        unfold isLc at h2
        split at h2
        · rename_i e; exact .inl e
        · rename_i e; exact .inr e
        · cases h2
      obtain ⟨g1, g2, g3, g4⟩ := pn_ok c h3
      have ae := assignEach_cons (e := .Name x p) rfl ts X.env
      refine ⟨PGsimp (pgs_cons (pg_name (by rw [c.c.N]; exact c.c.nd) (by rw [c.c.N]; exact nmIs_of h1) hl (.inl (c.fn x))) g1 (by rw [ae]; rfl)) fun vs σ H Q ⟨hl, q⟩ => ?_, by simp [g2], by rw [ae]; simp [g3], by rw [ae]; simp [List.findIdx?_cons, g4]⟩
      match vs, hl with
      | v :: vs, hl => exact ⟨v, vs, rfl, by simpa using hl, q⟩
    all_goals exact ff h
theorem ss_parC {is : List (Nat × Bool)} {es : CEs} {st : Stmt} (c : Cq G F k X) (h : chkParC G X.env.scope is es st = true) : PS X st (tSt X.K F W (.par is es)) := by
  unfold chkParC at h
  split at h
  · rename_i ts kt pt vs k2 pt2 hg
    obtain ⟨es', kk, p1, p, e1, rfl⟩ := getAsgT_eq hg
    cases e1
    simp only [Bool.and_eq_true, decide_eq_true_eq] at h
    obtain ⟨h1, h2, h3, h4, h5⟩ := h
    obtain ⟨g1, g2, g3, g4⟩ := pn_ok c h1
    obtain ⟨t, ht, hc⟩ := List.any_eq_true.mp h5
    refine PSimp (ps_asg (pe_tupD (par_ok (is := is) (es := es) c h2)) (pg_tup c.c.calm g1 g3 g4) (sw_tp _ _) (swS_none ⟨t, ht, hc⟩) rfl) fun D σ H ⟨H0, Av0, cs, Av, ρ, st, fl, s, he, q⟩ => ?_
    simp only [evS] at he
    split at he
    · rename_i ρ' st' e1
      cases he
      refine ⟨H0, Av0, cs, Av, ρ, ρ, ρ', σ, st, st', s, s, e1, fun vs' H' Av' hl sp s' => ⟨by rw [hl, ← g2]; exact Nat.le_trans h3 (by rw [sizeLine_eq]; decide), fun p o ho hp => ?_⟩⟩
      have z : Ext [] H' (upd H' p (.frz o (.tup vs'))) := Ext.upd hp
      refine ⟨p, vs', rfl, (SqD.new ho).t, by rw [hl, ← g2], hl, ?_⟩
      have cl' := s'.cl.ext s'.ok z
      exact q cs Av' _ _ (sp.trans (Stp.of_ext s'.ok z.all)) (s'.ext z.all cl')
    · cases he
  · cases h
theorem ss_par {is : List (Nat × Bool)} {es : CEs} : SS G F k W (.par is es) := ⟨fun {X st} c h0 => by
  have h0 : (chkPar G X.env.scope is es st || chkParC G X.env.scope is es st) = true := by unfold chkS at h0; exact h0
  rw [Bool.or_eq_true] at h0
  rcases h0 with h | h
  case inr => exact ss_parC c h
  have ev : ∀ {ρ : Rho} {st : Sto} {fl : Fl}, evS F W (.par is es) ρ st = some fl → ∃ ρ' st', evPar F is es ρ ρ st = some (ρ', st') ∧ fl = .nx ρ' st' := fun {ρ st fl} he => by
    simp only [evS] at he
    split at he
    · rename_i ρ' st' e1
      cases he
      exact ⟨ρ', st', e1, rfl⟩
    · cases he
  have hN : X.N.Nodup := by rw [c.c.N]; exact c.c.nd
  unfold chkPar at h
  split at h
  · rename_i i b1 j b2 ca cb
    split at h
    · rename_i x px y py a b hg
      obtain ⟨kt, pt, k2, pt2, p, rfl⟩ := getPar2_eq hg
      simp only [Bool.and_eq_true, decide_eq_true_eq, bne_iff_ne] at h
      obtain ⟨h1, h2, h3, h4, h5, h6, h7, h8, h9, h10, h11, h12⟩ := h
      have hi : X.N[i]? = some x := by rw [c.c.N]; exact nmIs_of h3
      have hj : X.N[j]? = some y := by rw [c.c.N]; exact nmIs_of h4
      have pa := par_ok (is := [(i, b1), (j, b2)]) (es := .cons false ca (.cons false cb .nil)) (l := [a, b]) c (by simp [chkAs, h8, h9, h10, h11])
      refine PSimp (ps_par c.c.calm hN hi hj h1 (isLoc1_of h5) (isLoc1_of h6) pa (swS_2 c h2 (isLoc1_of h5) (isLoc1_of h6) h7 h8 h9 h12) rfl) fun D σ H ⟨H0, Av0, cs, Av, ρ, st, fl, s, he, q⟩ => ?_
      obtain ⟨ρ', st', e1, rfl⟩ := ev he
      refine ⟨H0, Av0, cs, Av, ρ, ρ, ρ', σ, st, st', s, s, e1, fun vs H' Av' hl sp s' => ?_⟩
      match vs, hl with
      | [v, w], _ => exact ⟨v, w, rfl, q cs Av' H' _ sp s'⟩
    · cases h
  · rename_i i b1 j b2 l b3 ca cb cc
    split at h
    · rename_i x px y py z pz a b d hg
      obtain ⟨kt, pt, k2, pt2, p, rfl⟩ := getPar3_eq hg
      simp only [Bool.and_eq_true, decide_eq_true_eq, bne_iff_ne] at h
      obtain ⟨h1, h2, h3, h4, h5, h6, h7, h8, h9, h10, h11, h12, h13, h14, h15, h16, h17, h18, h19, h20, h21⟩ := h
      have hi : X.N[i]? = some x := by rw [c.c.N]; exact nmIs_of h7
      have hj : X.N[j]? = some y := by rw [c.c.N]; exact nmIs_of h8
      have hk : X.N[l]? = some z := by rw [c.c.N]; exact nmIs_of h9
      have pa := par_ok (is := [(i, b1), (j, b2), (l, b3)]) (es := .cons false ca (.cons false cb (.cons false cc .nil))) (l := [a, b, d]) c (by simp [chkAs, h15, h16, h17, h18, h19, h20])
      refine PSimp (L2.ps_par3 c.c.calm hN hi hj hk h1 h2 h3 (isLoc1_of h10) (isLoc1_of h11) (isLoc1_of h12) pa (swS_3 c h4 h5 h6 (isLoc1_of h10) (isLoc1_of h11) (isLoc1_of h12) h13 h14 h15 h16 h17 h21) rfl) fun D σ H ⟨H0, Av0, cs, Av, ρ, st, fl, s, he, q⟩ => ?_
      obtain ⟨ρ', st', e1, rfl⟩ := ev he
      refine ⟨H0, Av0, cs, Av, ρ, ρ, ρ', σ, st, st', s, s, e1, fun vs H' Av' hl sp s' => ?_⟩
      match vs, hl with
      | [v, w, u], _ => exact ⟨v, w, u, rfl, q cs Av' H' _ sp s'⟩
    · cases h
  · cases h⟩
end
end Ev

set_option Elab.async false
set_option linter.all false
set_option maxRecDepth 100000
set_option maxHeartbeats 4000000
/-! Statements: writes, methods, returns, branches, loops. -/
namespace Ev
open PySem PySem.Spec PyProof.Rows L2
section
variable {G : Ga} {F : FT} {k W : Nat} {X : Cx}
/-! ### x[i] = e -/
theorem asg_sub {o i : Expr} {pos : Pos} {env : Env} (h : plainSub i = true) (v : Value) : assign (.Subscript o i pos) env v = (do
      let ov ← holding [v] (eval o env)
      let iv ← holding [v, ov] (eval i env)
      standAt pos
      holding [v, ov, iv] (setItem ov iv v)
      release [v, ov, iv] []) := by
  cases i <;> first | rfl | exact ff h
theorem sw_sub {e o i : Expr} {p : Pos} (l : Nat) (env : Env) : swapsWithSole [.Subscript o i p] e l env = pure false := by
  cases e <;> rfl
theorem swS_sub {e o i : Expr} {p : Pos} (env : Env) : swappedStores [.Subscript o i p] e env = pure none := by
  cases e <;> rfl
theorem setAt_rel {K : PySem.W.Frag} {cs : List Addr} {Av : Addr → Prop} {H : Hp} {vs : List V} {ds es : List D} {kd xd : D} {kv xv : V} (rs : Rps K cs Av H vs ds) (h : setAt ds kd xd = some es) (rk : Rp K cs Av H kv kd) (rx : Rp K cs Av H xv xd) :
    ∃ n j, kv = .int n ∧ ixN vs.length n = some j ∧ Rps K cs Av H (vs.set j xv) es := by
  unfold setAt at h
  split at h
  · rename_i n
    cases rk
    obtain ⟨j, hj, rfl⟩ := Option.map_eq_some_iff.mp h
    exact ⟨n, j, rfl, by rw [rs.length]; exact hj, rs.set j rx⟩
  · cases h
theorem ss_setS {i : Nat} {cx ce : CE} : SS G F k W (.setS i cx ce) := ⟨fun {X st} c h => by
  unfold chkS at h
  split at h
  · rename_i x ix e hg
    obtain ⟨px, sp, p, rfl⟩ := getSet_eq hg
    simp only [Bool.and_eq_true] at h
    obtain ⟨h1, h2, h3, h4⟩ := h
    refine PSimp (ps_asg ((sE G F k ce).s c.c h3) (pg_sub (chkRd_ok c h1) ((sE G F k cx).s c.c h2) set_list (asg_sub h4)) (sw_sub _ _) (swS_sub _) rfl) fun D σ H ⟨H0, Av0, cs, Av, ρ, st, fl, s, he, q⟩ => ?_
    simp only [evS] at he
    split at he
    · rename_i r st1 e1
      split at he
      · rename_i kx st2 e2
        split at he
        · rename_i ds hds
          split at he
          · rename_i ds1 hd1
            cases he
            refine ⟨cs, Av, ρ, st, r, st1, s.ok, s.cl, s.en, e1, fun v H1 x1 c1 r1 => ?_⟩
            have s1 := s.ext x1 c1
            obtain ⟨a, vs, ha, _⟩ := slot_o s1.en hds
            refine ⟨.ref a, ha, cs, Av, ρ, st1, kx, st2, s1.ok, s1.cl, s1.en, e2, fun u H2 x2 c2 r2 => ?_⟩
            have s2 := s1.ext x2 c2
            obtain ⟨a', vs', ha', hA, na, hH, rs⟩ := slot_o s2.en hds
            rw [ha] at ha'
            cases ha'
            obtain ⟨n, j, rfl, hj, rs'⟩ := setAt_rel rs hd1 (r2.1.rp s1.ok.there) ((r1.1.rp s.ok.there).ext s1.ok x2)
            obtain ⟨s3, sp3⟩ := s2.mut hds ha rs'
            exact ⟨a, vs', n, j, rfl, rfl, hH, hj, q cs Av _ σ ((Stp.of_ext s.ok (x1.trans x2)).trans sp3) s3⟩
          · cases he
        · cases he
      · cases he
    · cases he
  · cases h⟩
theorem ss_setC {i : Nat} {cx ce : CE} : SS G F k W (.setC i cx ce) := ⟨fun {X st} c h => by
  unfold chkS at h
  split at h
  · rename_i x ix e hg
    obtain ⟨px, sp, p, rfl⟩ := getSet_eq hg
    simp only [Bool.and_eq_true] at h
    obtain ⟨h1, h2, h3, h4⟩ := h
    refine PSimp (ps_asg ((sE G F k ce).s c.c h3) (pg_sub (chkRd_ok c h1) ((sE G F k cx).s c.c h2) set_list (asg_sub h4)) (sw_sub _ _) (swS_sub _) rfl) fun D σ H ⟨H0, Av0, cs, Av, ρ, st, fl, s, he, q⟩ => ?_
    simp only [evS] at he
    split at he
    · rename_i r st1 e1
      split at he
      · rename_i kx st2 e2
        split at he
        · rename_i cd hcd
          split at he
          · rename_i n hn
            split at he
            · rename_i ds hds
              split at he
              · rename_i ds1 hd1
                cases he
                obtain ⟨m, rfl, rfl⟩ := cellOf_eq hn
                refine ⟨cs, Av, ρ, st, r, st1, s.ok, s.cl, s.en, e1, fun v H1 x1 c1 r1 => ?_⟩
                have s1 := s.ext x1 c1
                obtain ⟨u0, hu0, ru0⟩ := slot_v s1.en hcd
                cases ru0 with
                | dct _ _ _ _ hk => exact dct_ne hk
                | @cell a m' hm' =>
                refine ⟨.ref a, hu0, cs, Av, ρ, st1, kx, st2, s1.ok, s1.cl, s1.en, e2, fun u H2 x2 c2 r2 => ?_⟩
                have s2 := s1.ext x2 c2
                have hcs : cs[(m' : Int).toNat]? = some a := by simpa using hm'
                obtain ⟨vs', hH, rs⟩ := s2.cl.at_ _ a ds hcs hds
                obtain ⟨n, j, rfl, hj, rs'⟩ := setAt_rel rs hd1 (r2.1.rp s1.ok.there) ((r1.1.rp s.ok.there).ext s1.ok x2)
                have hlt : (m' : Int).toNat < st2.length := by
                  rcases Nat.lt_or_ge (m' : Int).toNat st2.length with h | h
                  · exact h
                  · rw [List.getElem?_eq_none h] at hds; cases hds
                obtain ⟨s3, sp3⟩ := s2.cell hcs hlt rs'
                exact ⟨a, vs', n, j, rfl, rfl, hH, hj, q cs Av _ σ ((Stp.of_ext s.ok (x1.trans x2)).trans sp3) s3⟩
              · cases he
            · cases he
          · cases he
        · cases he
      · cases he
    · cases he
  · cases h⟩
theorem tup2_none {o1 i1 o2 i2 : Expr} {a b : Expr} {p1 p2 pt pt2 : Pos} {kt k2 : Nat} (env : Env) (hk : (env.blockKind != .function) = false) (pa : plainE a = true) (pb : plainE b = true) : swappedStores [.Tuple [.Subscript o1 i1 p1, .Subscript o2 i2 p2] kt pt] (.Tuple [a, b] k2 pt2) env = pure none := by
  have hs : [a, b].any isStar = false := by simp [notStar pa, notStar pb]
  have e : swappedStores [.Tuple [.Subscript o1 i1 p1, .Subscript o2 i2 p2] kt pt] (.Tuple [a, b] k2 pt2) env = (if (!(2 == 2 || 2 == 3) || 2 != 2 || env.blockKind != .function) = true then pure none else if [a, b].any isStar = true then pure none else pure none) := by
    unfold swappedStores
    rfl
  rw [e, hs]
  split <;> rfl
theorem ss_setS2 {i : Nat} {cx1 cx2 ce1 ce2 : CE} : SS G F k W (.setS2 i cx1 cx2 ce1 ce2) := ⟨fun {X st} c h => by
  unfold chkS at h
  split at h
  · rename_i x i1 y i2 e1 e2 hg
    obtain ⟨px, sp, py, sq, kt, pt, k2, pt2, p, rfl⟩ := getSet2_eq hg
    simp only [Bool.and_eq_true] at h
    obtain ⟨h1, h2, h3, h4, h5, h6, h7, h8, h9, h10⟩ := h
    have pgs := pgs_cons (pg_sub (pos := sp) (chkRd_ok (p := px) c h1) ((sE G F k cx1).s c.c h3) set_list (asg_sub h7)) (pgs_cons (pg_sub (pos := sq) (chkRd_ok (p := py) c h2) ((sE G F k cx2).s c.c h4) set_list (asg_sub h8)) pgs_nil rfl) rfl
    have pet := pe_tup (x1 := k2) (pos := pt2) (pa_cons ((sE G F k ce1).s c.c h5) (pa_cons ((sE G F k ce2).s c.c h6) pa_nil (star_plain h10 _ _)) (star_plain h9 _ _))
    refine PSimp (ps_asg pet (pg_tup c.c.calm pgs rfl rfl) (sw_tp _ _) (tup2_none _ (blk_fn c) h9 h10) rfl) fun D σ H ⟨H0, Av0, cs, Av, ρ, st, fl, s, he, q⟩ => ?_
    simp only [evS] at he
    split at he
    · rename_i r1 st1 e1
      split at he
      · rename_i r2 st2 e2
        split at he
        · rename_i k1 st3 e3
          split at he
          · rename_i ds hds
            split at he
            · rename_i ds1 hd1
              split at he
              · rename_i k2' st4 e4
                split at he
                · rename_i ds2 hd2
                  cases he
                  refine ⟨cs, Av, ρ, st, r1, st1, s.ok, s.cl, s.en, e1, fun v1 H1 x1 c1 q1 => ?_⟩
                  have s1 := s.ext x1 c1
                  refine ⟨cs, Av, ρ, st1, r2, st2, s1.ok, s1.cl, s1.en, e2, fun v2 H2 x2 c2 q2 => ?_⟩
                  have s2 := s1.ext x2 c2
                  refine ⟨by show 2 ≤ sizeLine; decide, fun T hT => ?_⟩
                  have zT : Ext [] H2 (upd H2 T (.tup [v1, v2])) := Ext.upd hT
                  have s3 := s2.ext zT.all (s2.cl.ext s2.ok zT)
                  refine ⟨T, [v1, v2], rfl, SqT.of (upd_same ..), rfl, v1, [v2], rfl, ?_⟩
                  obtain ⟨a, vs, ha, _⟩ := slot_o s3.en hds
                  refine ⟨.ref a, ha, cs, Av, ρ, st2, k1, st3, s3.ok, s3.cl, s3.en, e3, fun u1 H4 x4 c4 q4 => ?_⟩
                  have s4 := s3.ext x4 c4
                  obtain ⟨a', vs', ha', hA, na, hH, rs⟩ := slot_o s4.en hds
                  rw [ha] at ha'
                  cases ha'
                  have R1 : Rp X.K cs Av H4 v1 r1.d := (((q1.1.rp s.ok.there).ext s1.ok x2).ext s2.ok zT.all).ext s3.ok x4
                  have R2 : Rp X.K cs Av H4 v2 r2.d := ((q2.1.rp s1.ok.there).ext s2.ok zT.all).ext s3.ok x4
                  obtain ⟨n, j, rfl, hj, rs'⟩ := setAt_rel rs hd1 (q4.1.rp s3.ok.there) R1
                  obtain ⟨s5, sp5⟩ := s4.mut hds ha rs'
                  refine ⟨a, vs', n, j, rfl, rfl, hH, hj, v2, [], rfl, ?_⟩
                  have hi : (ρ.set i (some (RV.o ds1)))[i]? = some (some (RV.o ds1)) := by
                    have hl : i < ρ.length := by
                      rcases Nat.lt_or_ge i ρ.length with h | h
                      · exact h
                      · rw [List.getElem?_eq_none h] at hds; cases hds
                    rw [List.getElem?_set_self hl]
                  refine ⟨.ref a, ha, cs, Av, _, st3, k2', st4, s5.ok, s5.cl, s5.en, e4, fun u2 H6 x6 c6 q6 => ?_⟩
                  have s6 := s5.ext x6 c6
                  obtain ⟨a'', vs'', ha'', hA', na', hH', rs2⟩ := slot_o s6.en hi
                  rw [ha] at ha''
                  cases ha''
                  have ap : Avd Av Av H4 := ⟨fun _ h => h, s4.ok.lst⟩
                  have R2' : Rp X.K cs Av H6 v2 r2.d := (R2.p ap sp5.ext).ext s5.ok x6
                  obtain ⟨n', j', rfl, hj', rs2'⟩ := setAt_rel rs2 hd2 (q6.1.rp s5.ok.there) R2'
                  obtain ⟨s7, sp7⟩ := s6.mut hi ha rs2'
                  have hset : (ρ.set i (some (RV.o ds1))).set i (some (RV.o ds2)) = ρ.set i (some (RV.o ds2)) := by simp
                  rw [hset] at s7
                  refine ⟨a, vs'', n', j', rfl, rfl, hH', hj', rfl, q cs Av _ σ ?_ s7⟩
                  exact ((Stp.of_ext s.ok (((x1.trans x2).trans zT.all).trans x4)).trans sp5).trans ((Stp.of_ext s5.ok x6).trans sp7)
                · cases he
              · cases he
            · cases he
          · cases he
        · cases he
      · cases he
    · cases he
  · cases h⟩

/-! ### x.append(e), x.extend(e), x.pop(i) -/
theorem meth_of {i : Nat} {ce : CE} {nm : Str} {st : Stmt} (h : chkMeth G X.env.scope i ce nm st = true) : ∃ x px ap e cp p, st = .Expr (.Call (.Attribute (.Name x px) nm ap) [e] [] cp) p ∧ chkRd G X.env.scope i x = true ∧ plainE e = true ∧ chkE G X.env.scope false ce e = true ∧ (ap.endLine == cp.line) = true := by
  unfold chkMeth at h
  split at h
  · rename_i x m ap e cp hg
    obtain ⟨px, p, rfl⟩ := getMeth_eq hg
    simp only [Bool.and_eq_true] at h
    obtain ⟨h0, h1, h2, h3, h4⟩ := h
    obtain rfl := eq_of_beq h0
    exact ⟨x, px, ap, e, cp, p, rfl, h1, h2, h3, h4⟩
  · cases h
theorem few1 {e : Expr} {cp : Pos} (h : plainE e = true) : ((backTo cp (starEach [e] X.env)).all (fun x => !x.1) && (backToKw cp (keywordEach [] X.env)).all (fun x => x.1.isSome)
      && decide ([e].length + ([] : List Keyword).length + (if ([] : List Keyword).isEmpty then 0 else 1) < 30)) = true := by
  rw [star_plain h]; rfl
theorem ss_app {i : Nat} {ce : CE} : SS G F k W (.app i ce) := ⟨fun {X st} c h => by
  have h : chkMeth G X.env.scope i ce "append" st = true := by unfold chkS at h; exact h
  obtain ⟨x, px, ap, e, cp, p, rfl, h1, h2, h3, h4⟩ := meth_of h
  refine PSimp (ps_expr (pe_bm PySem.F.plainAttrs_list PySem.F.slot_list_append PySem.F.type_list_append mt_append (chkRd_ok c h1) (pa_cons ((sE G F k ce).s c.c h3) pa_nil (star_plain h2 _ _)) rfl (few1 h2) h4 (star_plain h2 _ _) rfl) rfl) fun D σ H ⟨H0, Av0, cs, Av, ρ, st, fl, s, he, q⟩ => ?_
  simp only [evS] at he
  split at he
  · rename_i r st1 e1
    split at he
    · rename_i ds hds
      split at he
      · rename_i hlen
        cases he
        obtain ⟨a, vs, ha, hA0, na0, hH0, _⟩ := slot_o s.en hds
        refine ⟨.ref a, ha, .inl ⟨rfl, vs, SqL.of hH0⟩, cs, Av, ρ, st, r, st1, s.ok, s.cl, s.en, e1, fun v H1 x1 c1 r1 => ?_⟩
        have s1 := s.ext x1 c1
        obtain ⟨a', vs', ha', hA, na, hH, rs⟩ := slot_o s1.en hds
        rw [ha] at ha'
        cases ha'
        obtain ⟨s2, sp2⟩ := s1.mut hds ha (rs.append (.cons (r1.1.rp s.ok.there) .nil))
        refine ⟨a, vs', v, rfl, rfl, hH, ?_, q cs Av _ σ ((Stp.of_ext s.ok x1).trans sp2) s2⟩
        rw [rs.length]
        exact Nat.lt_of_lt_of_le hlen maxLen_le
      · cases he
    · cases he
  · cases he⟩
theorem ss_ext {i : Nat} {ce : CE} : SS G F k W (.ext i ce) := ⟨fun {X st} c h => by
  have h : chkMeth G X.env.scope i ce "extend" st = true := by unfold chkS at h; exact h
  obtain ⟨x, px, ap, e, cp, p, rfl, h1, h2, h3, h4⟩ := meth_of h
  refine PSimp (ps_expr (pe_bm PySem.F.plainAttrs_list PySem.F.slot_list_extend PySem.F.type_list_extend mt_extend (chkRd_ok c h1) (pa_cons ((sE G F k ce).s c.c h3) pa_nil (star_plain h2 _ _)) rfl (few1 h2) h4 (star_plain h2 _ _) rfl) rfl) fun D σ H ⟨H0, Av0, cs, Av, ρ, st, fl, s, he, q⟩ => ?_
  simp only [evS] at he
  split at he
  · rename_i xs st1 e1
    split at he
    · rename_i ds hds
      split at he
      · rename_i hlen
        cases he
        obtain ⟨a, vs, ha, hA0, na0, hH0, _⟩ := slot_o s.en hds
        refine ⟨.ref a, ha, .inl ⟨rfl, vs, SqL.of hH0⟩, cs, Av, ρ, st, .o xs, st1, s.ok, s.cl, s.en, e1, fun v H1 x1 c1 r1 => ?_⟩
        have s1 := s.ext x1 c1
        obtain ⟨a', vs', ha', hA, na, hH, rs⟩ := slot_o s1.en hds
        rw [ha] at ha'
        cases ha'
        obtain ⟨b, zs, rfl, hb0, hb1, rz⟩ := r1.1
        obtain ⟨s2, sp2⟩ := s1.mut hds ha (rs.append (rz.av fun x hx => .inl (.inl hx)))
        refine ⟨a, b, vs', zs, rfl, rfl, hH, hb1, ?_, q cs Av _ σ ((Stp.of_ext s.ok x1).trans sp2) s2⟩
        rw [rs.length, rz.length]
        exact Nat.le_trans hlen maxLen_le
      · cases he
    · cases he
  · cases he⟩
theorem ss_popAt {i : Nat} {ce : CE} : SS G F k W (.popAt i ce) := ⟨fun {X st} c h => by
  have h : chkMeth G X.env.scope i ce "pop" st = true := by unfold chkS at h; exact h
  obtain ⟨x, px, ap, e, cp, p, rfl, h1, h2, h3, h4⟩ := meth_of h
  refine PSimp (ps_expr (pe_bm PySem.F.plainAttrs_list PySem.F.slot_list_pop PySem.F.type_list_pop mt_popAt (chkRd_ok c h1) (pa_cons ((sE G F k ce).s c.c h3) pa_nil (star_plain h2 _ _)) rfl (few1 h2) h4 (star_plain h2 _ _) rfl) rfl) fun D σ H ⟨H0, Av0, cs, Av, ρ, st, fl, s, he, q⟩ => ?_
  simp only [evS] at he
  split at he
  · rename_i n st1 e1
    split at he
    · rename_i ds hds
      split at he
      · rename_i j hj
        split at he
        · rename_i hlen
          cases he
          obtain ⟨a, vs, ha, hA0, na0, hH0, _⟩ := slot_o s.en hds
          refine ⟨.ref a, ha, .inl ⟨rfl, vs, SqL.of hH0⟩, cs, Av, ρ, st, _, st1, s.ok, s.cl, s.en, e1, fun v H1 x1 c1 r1 => ?_⟩
          have s1 := s.ext x1 c1
          obtain ⟨a', vs', ha', hA, na, hH, rs⟩ := slot_o s1.en hds
          rw [ha] at ha'
          cases ha'
          cases r1.1
          obtain ⟨s2, sp2⟩ := s1.mut hds ha (rs.eraseIdx j)
          obtain ⟨q1, q2, q3, q4⟩ := ixN_seq hj
          have hl : ds.length ≤ 100000 := hlen
          obtain ⟨y, hy⟩ : ∃ y, vs'[j]? = some y := ⟨_, List.getElem?_eq_getElem (by rw [rs.length]; exact q2)⟩
          refine ⟨a, vs', n, j, y, rfl, rfl, hH, by omega, by omega, by rw [rs.length]; exact q1, hy, q cs Av _ σ ((Stp.of_ext s.ok x1).trans sp2) s2⟩
        · cases he
      · cases he
    · cases he
  · cases he⟩
theorem getPop_eq {z : Expr} {y : Str} {bp : Pos} {e : Expr} {cp : Pos} (h : getPop z = some (y, bp, e, cp)) : ∃ py, z = .Call (.Attribute (.Name y py) "pop" bp) [e] [] cp := by
  unfold getPop at h
  split at h
  · split at h
    · rename_i hm
      cases h
      subst hm
      exact ⟨_, rfl⟩
    · cases h
  · cases h
theorem ss_appPop {t i : Nat} {ce : CE} : SS G F k W (.appPop t i ce) := ⟨fun {X st} c h => by
  have hh : chkAP G X.env.scope t i ce st = true := by unfold chkS at h; exact h
  clear h
  unfold chkAP at hh
  cases hg : getMeth st with
  | none => rw [hg] at hh; cases hh
  | some q5 =>
  obtain ⟨x, m, ap, z, cp⟩ := q5
  rw [hg] at hh
  obtain ⟨px, p, rfl⟩ := getMeth_eq hg
  cases hg2 : getPop z with
  | none => simp only [hg2] at hh; cases hh
  | some qq =>
  obtain ⟨y, bp, e, cp'⟩ := qq
  simp only [hg2] at hh
  obtain ⟨py, rfl⟩ := getPop_eq hg2
  simp only [Bool.and_eq_true] at hh
  obtain ⟨h0, h1, h2, h3, h4, h5, h6⟩ := hh
  obtain rfl := eq_of_beq h0
  have inner := pe_bm (o := .Name y py) PySem.F.plainAttrs_list PySem.F.slot_list_pop PySem.F.type_list_pop mt_popAt (chkRd_ok c h2) (pa_cons ((sE G F k ce).s c.c h4) pa_nil (star_plain h3 _ _)) rfl (few1 h3) h6 (star_plain h3 _ _) rfl
  refine PSimp (ps_expr (pe_bm PySem.F.plainAttrs_list PySem.F.slot_list_append PySem.F.type_list_append mt_append (chkRd_ok c h1) (pa_cons inner pa_nil (star_plain rfl _ _)) rfl (few1 rfl) h5 (star_plain rfl _ _) rfl) rfl) fun D σ H ⟨H0, Av0, cs, Av, ρ, st, fl, s, he, q⟩ => ?_
  simp only [evS] at he
  split at he
  case h_2 => cases he
  rename_i n st1 e1
  split at he
  case h_2 => cases he
  rename_i ds us hds hus
  split at he
  case h_2 => cases he
  rename_i j hj
  split at he
  case isFalse => cases he
  rename_i hc
  obtain ⟨hlen, hul, hne⟩ := hc
  split at he
  case h_2 => cases he
  rename_i d hd
  cases he
  obtain ⟨at_, vt, hat, _, _, hHt, _⟩ := slot_o s.en hus
  obtain ⟨ai, vi, hai, _, _, hHi, _⟩ := slot_o s.en hds
  refine ⟨.ref at_, hat, .inl ⟨rfl, vt, SqL.of hHt⟩, .ref ai, hai, .inl ⟨rfl, vi, SqL.of hHi⟩, cs, Av, ρ, st, _, st1, s.ok, s.cl, s.en, e1, fun v H1 x1 c1 r1 => ?_⟩
  have s1 := s.ext x1 c1
  obtain ⟨ai', vi', hai', hA, hn, hH1, rs⟩ := slot_o s1.en hds
  rw [hai] at hai'
  cases hai'
  cases r1.1
  obtain ⟨s2, sp2⟩ := s1.mut hds hai (rs.eraseIdx j)
  obtain ⟨q1, q2, q3, q4⟩ := ixN_seq hj
  have hl : ds.length ≤ 100000 := hlen
  obtain ⟨y', hy, ry⟩ := rs.get hd
  have ap : Avd Av (· = ai) H1 := ⟨fun b h => by rw [h]; exact hA, fun b h => by rw [h]; exact ⟨_, hH1⟩⟩
  have ex : ExtP (· = ai) H1 (upd H1 ai (.lst (vi'.eraseIdx j))) := fun b o e ne => by rw [upd_ne ne]; exact e
  have ry2 := ry.p ap ex
  have hus2 : (ρ.set i (some (.o (ds.eraseIdx j))))[t]? = some (some (.o us)) := by rw [List.getElem?_set_ne (fun z => hne z.symm)]; exact hus
  obtain ⟨at2, vt2, hat2, _, _, hHt2, rt2⟩ := slot_o s2.en hus2
  rw [hat] at hat2
  cases hat2
  obtain ⟨s3, sp3⟩ := s2.mut hus2 hat (rt2.append (.cons ry2 .nil))
  refine ⟨ai, vi', n, j, y', rfl, rfl, hH1, by omega, by omega, by rw [rs.length]; exact q1, hy, at_, vt2, y', rfl, rfl, hHt2, ?_, q cs Av _ σ (((Stp.of_ext s.ok x1).trans sp2).trans sp3) s3⟩
  rw [rt2.length]
  exact Nat.lt_of_lt_of_le hul maxLen_le⟩
/-! ### return -/
theorem ss_ret {ce : CE} : SS G F k W (.ret ce) := ⟨fun {X st} c h => by
  unfold chkS at h
  split at h
  · rename_i e hg
    obtain ⟨p, rfl⟩ := getRet_eq hg
    refine PSimp (ps_ret ((sE G F k ce).s c.c h)) fun D σ H ⟨H0, Av0, cs, Av, ρ, st, fl, s, he, q⟩ => ?_
    simp only [evS] at he
    split at he
    · rename_i r st1 e1
      cases he
      refine ⟨cs, Av, ρ, st, r, st1, s.ok, s.cl, s.en, e1, fun v H1 x1 c1 r1 => ?_⟩
      exact q cs Av H1 v (Stp.of_ext s.ok x1) c1 (s.ex.trans x1) s.sub (r1.old s.ex s.ok)
    · cases he
  · cases h⟩
theorem ss_retO {i : Nat} : SS G F k W (.retO i) := ⟨fun {X st} c h => by
  unfold chkS at h
  split at h
  · rename_i x px hg
    obtain ⟨p, rfl⟩ := getRet_eq hg
    refine PSimp (ps_ret (chkRd_ok c h)) fun D σ H ⟨H0, Av0, cs, Av, ρ, st, fl, s, he, q⟩ => ?_
    simp only [evS] at he
    split at he
    · rename_i ds hds
      cases he
      obtain ⟨a, vs, ha, hA, na, hH, rs⟩ := slot_o s.en hds
      have h0 := s.fr i a ⟨ds, hds, ha⟩
      have hav : ∀ b, add Av a b → Av b ∨ H b = none := fun b hb => .inl (hb.elim id fun z => by rw [z]; exact hA)
      exact ⟨.ref a, ha, q cs Av H _ Stp.refl s.cl s.ex s.sub ⟨⟨a, vs, rfl, h0, hH, rs.av hav⟩, fun b es e1 _ => by cases e1; exact s.cl.av hav⟩⟩
    · cases he
  · cases h⟩
theorem ss_brk : SS G F k W .brk := ⟨fun {X st} c h => by
  have h : isBrk st = true := by unfold chkS at h; exact h
  obtain ⟨p, rfl⟩ := isBrk_eq h
  refine PSimp ps_break fun D σ H ⟨H0, Av0, cs, Av, ρ, st, fl, s, he, q⟩ => ?_
  simp only [evS] at he
  cases he
  exact q cs Av H σ Stp.refl s⟩
theorem ss_cont : SS G F k W .cont := ⟨fun {X st} c h => by
  have h : isCont st = true := by unfold chkS at h; exact h
  obtain ⟨p, rfl⟩ := isCont_eq h
  refine PSimp ps_continue fun D σ H ⟨H0, Av0, cs, Av, ρ, st, fl, s, he, q⟩ => ?_
  simp only [evS] at he
  cases he
  exact q cs Av H σ Stp.refl s⟩
theorem ss_bad : SS G F k W .bad := ⟨fun {X st} c h => PSimp ps_never fun D σ H ⟨H0, Av0, cs, Av, ρ, st, fl, s, he, q⟩ => by
  simp only [evS] at he
  cases he⟩

/-! ### branches, blocks -/
theorem ss_ite {ce : CE} {a b : CSs} (ha : SSs G F k W a) (hb : SSs G F k W b) : SS G F k W (.ite ce a b) := ⟨fun {X st} c h => by
  unfold chkS at h
  split at h
  · rename_i e sa sb hg
    obtain ⟨p, rfl⟩ := getIf_eq hg
    simp only [Bool.and_eq_true] at h
    obtain ⟨h1, h2, h3⟩ := h
    refine PSimp (ps_if ((sE G F k ce).t c.c h1) (ha.s c h2) (hb.s c h3)) fun D σ H ⟨H0, Av0, cs, Av, ρ, st, fl, s, he, q⟩ => ?_
    simp only [evS] at he
    split at he
    · rename_i r st1 e1
      split at he
      · rename_i e2
        refine ⟨cs, Av, ρ, st, r, st1, true, s.ok, s.cl, s.en, e1, e2, fun H1 x1 c1 => ?_⟩
        dsimp only
        rw [if_pos rfl]
        exact ⟨H0, Av0, cs, Av, ρ, st1, fl, s.ext x1 c1, he, q.step (Stp.of_ext s.ok x1)⟩
      · rename_i e2
        refine ⟨cs, Av, ρ, st, r, st1, false, s.ok, s.cl, s.en, e1, e2, fun H1 x1 c1 => ?_⟩
        dsimp only
        rw [if_neg (by decide)]
        exact ⟨H0, Av0, cs, Av, ρ, st1, fl, s.ext x1 c1, he, q.step (Stp.of_ext s.ok x1)⟩
      · cases he
    · cases he
  · cases h⟩
theorem sss_nil : SSs G F k W .nil := ⟨fun {X l} c h => by
  cases l with
  | cons => exact ff h
  | nil =>
    refine PSsimp pss_nil fun D σ H ⟨H0, Av0, cs, Av, ρ, st, fl, s, he, q⟩ => ?_
    simp only [evSs] at he
    cases he
    exact q cs Av H σ Stp.refl s⟩
/-- a statement that has a text -/
def isTx : CS → Bool
  | .freeze _ => false
  | .mkcell _ => false
  | _ => true
theorem chkSs_cons {sc : Scope} {s : CS} {r : CSs} {l : List Stmt} (ht : isTx s = true) (h : chkSs G sc (.cons s r) l = true) : ∃ st l', l = st :: l' ∧ chkS G sc s st = true ∧ chkSs G sc r l' = true := by
  cases l with
  | nil => cases s <;> first | exact ff h | exact ff ht
  | cons st l' =>
    refine ⟨st, l', rfl, ?_⟩
    cases s <;> first
      | exact ff ht
      | (simp only [chkSs, Bool.and_eq_true] at h; exact h)
theorem sss_cons {s : CS} {r : CSs} (ht : isTx s = true) (hs : SS G F k W s) (hr : SSs G F k W r) : SSs G F k W (.cons s r) := ⟨fun {X l} c h => by
  obtain ⟨st, l', rfl, h1, h2⟩ := chkSs_cons ht h
  refine PSsimp (pss_cons (hs.s c h1) (hr.s c h2)) fun D σ H ⟨H0, Av0, cs, Av, ρ, st, fl, s, he, q⟩ => ?_
  simp only [evSs] at he
  split at he
  · rename_i ρ1 st1 e1
    refine ⟨H0, Av0, cs, Av, ρ, st, _, s, e1, fun cs' Av' H' σ' sp s' => ?_⟩
    exact ⟨H0, Av0, cs', Av', ρ1, st1, fl, s', he, q.step sp⟩
  · rename_i hne
    refine ⟨H0, Av0, cs, Av, ρ, st, fl, s, he, ?_⟩
    cases fl with
    | nx ρ1 st1 => exact absurd he (hne ρ1 st1)
    | bk ρ1 st1 => exact q
    | ct ρ1 st1 => exact q
    | rt r st1 => exact q⟩
theorem sss_freeze {i : Nat} {r : CSs} (hr : SSs G F k W r) : SSs G F k W (.cons (.freeze i) r) := ⟨fun {X l} c h => by
  have h : chkSs G X.env.scope r l = true := by unfold chkSs at h; exact h
  refine PSsimp (hr.s c h) fun D σ H ⟨H0, Av0, cs, Av, ρ, st, fl, s, he, q⟩ => ?_
  simp only [evSs, evS] at he
  split at he
  · rename_i ρ1 st1 e1
    split at e1
    · rename_i ds hds
      cases e1
      obtain ⟨Av', s', sp⟩ := s.freeze hds
      exact ⟨H0, Av0, cs, Av', _, _, fl, s', he, q.step sp⟩
    · cases e1
  · rename_i hne
    split at he
    · rename_i ds hds
      cases he
      exact absurd (by rw [hds]) (hne _ _)
    · cases he⟩
theorem sss_mkcell {i : Nat} {r : CSs} (hr : SSs G F k W r) : SSs G F k W (.cons (.mkcell i) r) := ⟨fun {X l} c h => by
  have h : chkSs G X.env.scope r l = true := by unfold chkSs at h; exact h
  refine PSsimp (hr.s c h) fun D σ H ⟨H0, Av0, cs, Av, ρ, st, fl, s, he, q⟩ => ?_
  simp only [evSs, evS] at he
  split at he
  · rename_i ρ1 st1 e1
    split at e1
    · rename_i ds hds
      cases e1
      obtain ⟨a, s', sp⟩ := s.mkcell hds
      exact ⟨H0, Av0, cs ++ [a], Av, _, _, fl, s', he, q.step sp⟩
    · cases e1
  · rename_i hne
    split at he
    · rename_i ds hds
      cases he
      exact absurd (by rw [hds]) (hne _ _)
    · cases he⟩
end
end Ev

set_option Elab.async false
set_option linter.all false
set_option maxRecDepth 100000
set_option maxHeartbeats 4000000
/-! Loops, and all the statements by induction. -/
namespace Ev
open PySem PySem.Spec PyProof.Rows L2
section
variable {K : PySem.W.Frag} {cs cs' : List Addr} {Av Av' : Addr → Prop} {H H' : Hp} {ds : List D} {pr : Bool} {J : It}
theorem Wk.csx {P : Addr → Prop} {e : List Addr} (w : Wk K cs Av P H pr J ds) : Wk K (cs ++ e) Av P H pr J ds := by
  cases w with
  | lst n hs r => exact .lst n hs r.cs
  | tup hs r => exact .tup hs r.cs
  | rng lo n => exact .rng lo n
  | rngc lo c n => exact .rngc lo c n
  | enL n hs r => exact .enL n hs r.cs
  | enT hs r => exact .enT hs r.cs
  | zpL n n' hs hs' r r' => exact .zpL n n' hs hs' r.cs r'.cs
  | zpT hs hs' r r' => exact .zpT hs hs' r.cs r'.cs
/-- what a loop walks, later -/
theorem Wk.later (w : Wk K cs Av Av H pr J ds) (ok : AvOk cs Av H) (s : Stp cs Av H cs' Av' H') : Wk K cs' Av' Av H' pr J ds := by
  obtain ⟨e, rfl⟩ := s.pre
  let U : Addr → Prop := fun a => Av a ∨ Av' a
  have h1 : Wk K cs U Av H pr J ds := w.av fun a h => h.elim .inl (s.grow a)
  have h2 : Wk K cs U Av H' pr J ds := h1.p ⟨fun a h => .inl h, ok.lst⟩ s.ext
  exact (h2.av fun a h => .inl (.inr h)).csx
end
section
variable {G : Ga} {F : FT} {k W : Nat} {X : Cx}
theorem loop_cons {f : D → Rho → Sto → Option Fl} {x : D} {r : List D} {ρ : Rho} {st : Sto} {fl : Fl} (h : loop f (x :: r) ρ st = some fl) :
    ∃ f1, f x ρ st = some f1 ∧ match f1 with
      | .nx ρ1 st1 => loop f r ρ1 st1 = some fl
      | .ct ρ1 st1 => loop f r ρ1 st1 = some fl
      | .bk ρ1 st1 => fl = .nx ρ1 st1
      | .rt v st1 => fl = .rt v st1 := by
  simp only [loop] at h
  split at h
  · rename_i ρ1 st1 e; exact ⟨_, e, h⟩
  · rename_i ρ1 st1 e; exact ⟨_, e, h⟩
  · rename_i ρ1 st1 e; cases h; exact ⟨_, e, rfl⟩
  · rename_i v st1 e; cases h; exact ⟨_, e, rfl⟩
  · cases h
theorem avOf_f {cs : List Addr} {Av : Addr → Prop} : avOf false cs Av = Av := by unfold avOf; simp
theorem ss_for {t : Tg} {it : CI} {b : CSs} (hb : SSs G F k W b) : SS G F k W (.for_ t it b) := ⟨fun {X st} c h => by
  unfold chkS at h
  split at h
  · rename_i te ie sb hg
    obtain ⟨p, rfl⟩ := getFor_eq hg
    simp only [Bool.and_eq_true] at h
    obtain ⟨h1, h2, h3, h4⟩ := h
    refine PSimp (ps_for c.hp c.c.calm ((sI G F k it).i c.c h2) (tg_ok (fp := fun _ => true) c.c (fun x _ => c.fn x) h1) (hb.s c h4) (foldOk h3 _)) fun D σ H ⟨H0, Av0, cs, Av, ρ, st, fl, s, he, q⟩ => ?_
    simp only [evS] at he
    split at he
    · rename_i ds st1 e1
      refine ⟨cs, Av, ρ, st, ds, st1, s.ok, s.cl, s.en, e1, fun J H1 x1 c1 wk => ?_⟩
      rw [avOf_f] at wk
      have s1 := s.ext x1 c1
      have sp1 := Stp.of_ext s.ok x1
      generalize hf : (fun d ρ st => match bindTg t d ρ with
        | some ρ1 => evSs F W b ρ1 st
        | none => none : PyData → Rho → Sto → Option Fl) = f at he
      refine ⟨fun i m σi Hi => i ≤ ds.length ∧ m = ds.length - i ∧ ∃ cs' Av' ρi sti, SR X.K H0 Av0 cs' Av' Hi σi ρi sti ∧ Stp cs Av H1 cs' Av' Hi ∧ loop f (ds.drop i) ρi sti = some fl, ⟨ds.length, Nat.zero_le _, rfl, cs, Av, ρ, st1, s1, Stp.refl, he⟩, ?_⟩
      rintro i m σi Hi ⟨hi, rfl, cs', Av', ρi, sti, si, spi, hl⟩
      have w := wk.later s1.ok spi
      by_cases hlt : i < ds.length
      · have hd : ds[i]? = some ds[i] := List.getElem?_eq_getElem hlt
        rw [drop_at hd] at hl
        obtain ⟨f1, e2, e3⟩ := loop_cons hl
        refine .inr ⟨w.go hlt, fun σ' Hn => ∃ cs2 Av2 ρn stn, SR X.K H0 Av0 cs2 Av2 Hn σ' ρn stn ∧ Stp cs Av H1 cs2 Av2 Hn ∧ loop f (ds.drop (i + 1)) ρn stn = some fl, fun σ' Hn ⟨cs2, Av2, ρn, stn, a1, a2, a3⟩ => ⟨ds.length - (i + 1), by omega, by omega, rfl, cs2, Av2, ρn, stn, a1, a2, a3⟩, fun x Hy y => ?_⟩
        obtain ⟨d, hd', ex, rp⟩ := w.yld si.ok hlt y
        rw [hd] at hd'
        cases hd'
        have sy := si.ext ex.all (si.cl.ext si.ok ex)
        have spy := spi.trans (Stp.of_ext si.ok ex.all)
        rw [← hf] at e2
        simp only at e2
        split at e2
        · rename_i ρ1 hb1
          refine ⟨cs', Av', ρi, ds[i], ρ1, sy.en, rp.to (pr_tp h2 h1), hb1, fun σ2 ap en2 => ?_⟩
          have s2 := sy.bind hb1 ap en2
          refine ⟨H0, Av0, cs', Av', ρ1, sti, f1, s2, e2, ?_⟩
          cases f1 with
          | nx ρn stn => exact fun cs2 Av2 H2 σ3 sp3 s3 => ⟨cs2, Av2, ρn, stn, s3, spy.trans sp3, e3⟩
          | ct ρn stn => exact fun cs2 Av2 H2 σ3 sp3 s3 => ⟨cs2, Av2, ρn, stn, s3, spy.trans sp3, e3⟩
          | bk ρn stn =>
            have e3 : fl = .nx ρn stn := e3
            subst e3
            exact fun cs2 Av2 H2 σ3 sp3 s3 => q cs2 Av2 H2 σ3 (sp1.trans (spy.trans sp3)) s3
          | rt v stn =>
            have e3 : fl = .rt v stn := e3
            subst e3
            exact fun cs2 Av2 H2 v3 sp3 => q cs2 Av2 H2 v3 (sp1.trans (spy.trans sp3))
        · cases e2
      · have hi' : i = ds.length := by omega
        subst hi'
        rw [List.drop_length] at hl
        cases hl
        exact .inl ⟨w.stop, q cs' Av' Hi σi (sp1.trans spi) si⟩
    · cases he
  · cases h⟩
theorem loopW_succ {cnd : Rho → Sto → Option (Bool × Sto)} {f : Rho → Sto → Option Fl} {n : Nat} {ρ : Rho} {st : Sto} {fl : Fl} (h : loopW cnd f (n + 1) ρ st = some fl) :
    ∃ t st1, cnd ρ st = some (t, st1) ∧ ((t = false ∧ fl = .nx ρ st1) ∨ (t = true ∧ ∃ f1, f ρ st1 = some f1 ∧ match f1 with
      | .nx ρ1 st1 => loopW cnd f n ρ1 st1 = some fl
      | .ct ρ1 st1 => loopW cnd f n ρ1 st1 = some fl
      | .bk ρ1 st1 => fl = .nx ρ1 st1
      | .rt v st1 => fl = .rt v st1)) := by
  simp only [loopW] at h
  split at h
  · rename_i st1 e; cases h; exact ⟨false, st1, e, .inl ⟨rfl, rfl⟩⟩
  · rename_i st1 e
    refine ⟨true, st1, e, .inr ⟨rfl, ?_⟩⟩
    split at h
    · rename_i ρ1 st1 e; exact ⟨_, e, h⟩
    · rename_i ρ1 st1 e; exact ⟨_, e, h⟩
    · rename_i ρ1 st1 e; cases h; exact ⟨_, e, rfl⟩
    · rename_i v st1 e; cases h; exact ⟨_, e, rfl⟩
    · cases h
  · cases h
theorem ss_while {ce : CE} {b : CSs} (hb : SSs G F k W b) : SS G F k W (.while_ ce b) := ⟨fun {X st} c h => by
  unfold chkS at h
  split at h
  · rename_i e sb hg
    obtain ⟨p, rfl⟩ := getWhile_eq hg
    simp only [Bool.and_eq_true] at h
    obtain ⟨h1, h2⟩ := h
    refine PSimp (ps_while c.hp ((sE G F k ce).t c.c h1) (hb.s c h2)) fun D σ H ⟨H0, Av0, cs, Av, ρ, st, fl, s, he, q⟩ => ?_
    simp only [evS] at he
    generalize hc : (fun ρ st => match evE F ce ρ st with
      | some (x, st1) => match truth x.d with
        | some k => some (k, st1)
        | none => none
      | none => none : Rho → Sto → Option (Bool × Sto)) = cnd at he
    generalize hf : (fun ρ st => evSs F W b ρ st : Rho → Sto → Option Fl) = f at he
    refine ⟨fun m σi Hi => ∃ cs' Av' ρi sti, SR X.K H0 Av0 cs' Av' Hi σi ρi sti ∧ Stp cs Av H cs' Av' Hi ∧ loopW cnd f m ρi sti = some fl, ⟨W, cs, Av, ρ, st, s, Stp.refl, he⟩, ?_⟩
    rintro m σi Hi ⟨cs', Av', ρi, sti, si, spi, hl⟩
    cases m with
    | zero => cases hl
    | succ m =>
      obtain ⟨t, st1, e1, e2⟩ := loopW_succ hl
      have e1' : ∃ x, evE F ce ρi sti = some (x, st1) ∧ truth x.d = some t := by
        rw [← hc] at e1
        simp only at e1
        split at e1
        · rename_i x st1' e3
          split at e1
          · rename_i k' e4; cases e1; exact ⟨x, e3, e4⟩
          · cases e1
        · cases e1
      obtain ⟨x, e3, e4⟩ := e1'
      refine ⟨cs', Av', ρi, sti, x, st1, t, si.ok, si.cl, si.en, e3, e4, fun H1 x1 c1 => ?_⟩
      have s1 := si.ext x1 c1
      have sp1 := spi.trans (Stp.of_ext si.ok x1)
      rcases e2 with ⟨rfl, rfl⟩ | ⟨rfl, f1, e5, e6⟩
      · dsimp only
        rw [if_neg (by decide)]
        exact q cs' Av' H1 σi sp1 s1
      · dsimp only
        rw [if_pos rfl]
        refine ⟨fun σ' Hn => ∃ cs2 Av2 ρn stn, SR X.K H0 Av0 cs2 Av2 Hn σ' ρn stn ∧ Stp cs Av H cs2 Av2 Hn ∧ loopW cnd f m ρn stn = some fl, fun σ' Hn a => ⟨m, Nat.lt_succ_self m, a⟩, ?_⟩
        rw [← hf] at e5
        refine ⟨H0, Av0, cs', Av', ρi, st1, f1, s1, e5, ?_⟩
        cases f1 with
        | nx ρn stn => exact fun cs2 Av2 H2 σ3 sp3 s3 => ⟨cs2, Av2, ρn, stn, s3, sp1.trans sp3, e6⟩
        | ct ρn stn => exact fun cs2 Av2 H2 σ3 sp3 s3 => ⟨cs2, Av2, ρn, stn, s3, sp1.trans sp3, e6⟩
        | bk ρn stn =>
          have e6 : fl = .nx ρn stn := e6
          subst e6
          exact fun cs2 Av2 H2 σ3 sp3 s3 => q cs2 Av2 H2 σ3 (sp1.trans sp3) s3
        | rt v stn =>
          have e6 : fl = .rt v stn := e6
          subst e6
          exact fun cs2 Av2 H2 v3 sp3 => q cs2 Av2 H2 v3 (sp1.trans sp3)
  · cases h⟩
end
mutual
theorem sS (G : Ga) (F : FT) (k W : Nat) : ∀ s : CS, SS G F k W s
  | .expr e => ss_expr
  | .asg (.nm i) e => ss_asgN
  | .asg (.tp ts) e => ss_asgT
  | .asgO i e => ss_asgO
  | .par is es => ss_par
  | .setS i a b => ss_setS
  | .setS2 i a b c d => ss_setS2
  | .setC i a b => ss_setC
  | .app i e => ss_app
  | .ext i e => ss_ext
  | .popAt i e => ss_popAt
  | .appPop t i e => ss_appPop
  | .ret e => ss_ret
  | .retO i => ss_retO
  | .ite c a b => ss_ite (sSs G F k W a) (sSs G F k W b)
  | .for_ t it b => ss_for (sSs G F k W b)
  | .while_ c b => ss_while (sSs G F k W b)
  | .brk => ss_brk
  | .cont => ss_cont
  | .bad => ss_bad
  | .freeze i => ⟨fun {X st} c h => by unfold chkS at h; cases h⟩
  | .mkcell i => ⟨fun {X st} c h => by unfold chkS at h; cases h⟩
theorem sSs (G : Ga) (F : FT) (k W : Nat) : ∀ s : CSs, SSs G F k W s
  | .nil => sss_nil
  | .cons (.freeze i) r => sss_freeze (sSs G F k W r)
  | .cons (.mkcell i) r => sss_mkcell (sSs G F k W r)
  | .cons (.expr e) r => sss_cons rfl ss_expr (sSs G F k W r)
  | .cons (.asg t e) r => sss_cons rfl (sS G F k W (.asg t e)) (sSs G F k W r)
  | .cons (.asgO i e) r => sss_cons rfl ss_asgO (sSs G F k W r)
  | .cons (.par is es) r => sss_cons rfl ss_par (sSs G F k W r)
  | .cons (.setS i a b) r => sss_cons rfl ss_setS (sSs G F k W r)
  | .cons (.setS2 i a b c d) r => sss_cons rfl ss_setS2 (sSs G F k W r)
  | .cons (.setC i a b) r => sss_cons rfl ss_setC (sSs G F k W r)
  | .cons (.app i e) r => sss_cons rfl ss_app (sSs G F k W r)
  | .cons (.ext i e) r => sss_cons rfl ss_ext (sSs G F k W r)
  | .cons (.popAt i e) r => sss_cons rfl ss_popAt (sSs G F k W r)
  | .cons (.appPop t i e) r => sss_cons rfl ss_appPop (sSs G F k W r)
  | .cons (.ret e) r => sss_cons rfl ss_ret (sSs G F k W r)
  | .cons (.retO i) r => sss_cons rfl ss_retO (sSs G F k W r)
  | .cons (.ite c a b) r => sss_cons rfl (sS G F k W (.ite c a b)) (sSs G F k W r)
  | .cons (.for_ t it b) r => sss_cons rfl (sS G F k W (.for_ t it b)) (sSs G F k W r)
  | .cons (.while_ c b) r => sss_cons rfl (sS G F k W (.while_ c b)) (sSs G F k W r)
  | .cons .brk r => sss_cons rfl ss_brk (sSs G F k W r)
  | .cons .cont r => sss_cons rfl ss_cont (sSs G F k W r)
  | .cons .bad r => sss_cons rfl ss_bad (sSs G F k W r)
end
end Ev

set_option Elab.async false
set_option linter.all false
set_option maxRecDepth 100000
set_option maxHeartbeats 4000000
/-! Defs, and the law. -/
namespace Ev
open PySem PySem.Spec PyProof.Rows L2

/-- an entry into a body -/
theorem SR.start {K : PySem.W.Frag} {cs : List Addr} {Av : Addr → Prop} {H : Hp} {st : Sto} {vs : List V} {ds : List D} {N : List Str} {n : Nat} (ok : AvOk cs Av H) (cl : Cl K cs Av H st) (rs : Rps K cs Av H vs ds) (hn : n = N.length) :
    SR K H Av cs Av H (L2.start N vs) (initE n ds) st := by
  have no : ∀ i a, ¬ OwnAt (L2.start N vs) (initE n ds) i a := fun i a ⟨es, h, _⟩ => by
    unfold initE at h
    by_cases hi : i < (ds.map fun d => some (RV.v d)).length
    · rw [List.getElem?_append_left hi, List.getElem?_map] at h
      cases q : ds[i]? with
      | none => rw [q] at h; cases h
      | some d => rw [q] at h; cases h
    · rw [List.getElem?_append_right (Nat.le_of_not_lt hi), List.getElem?_replicate] at h
      split at h <;> cases h
  refine ⟨ok, cl, ⟨?_, fun i => ?_⟩, Ext.refl _ _, ok.there, fun _ h => h, fun i a h => absurd h (no i a), fun i j a h _ => absurd h (no i a)⟩
  · unfold L2.start initE
    simp [rs.length, hn]
  · unfold L2.start initE
    by_cases hi : i < ds.length
    · rw [List.getElem?_append_left (l₁ := vs.map some) (by rw [List.length_map, rs.length]; exact hi), List.getElem?_append_left (l₁ := ds.map _) (by simpa using hi), List.getElem?_map, List.getElem?_map]
      obtain ⟨v, d, h1, h2, h3⟩ := rs.getLt hi
      rw [h1, h2]
      exact ⟨v, rfl, h3⟩
    · rw [List.getElem?_append_right (l₁ := ds.map _) (by simpa using hi), List.getElem?_replicate]
      split <;> trivial
/-- the defs of a program, as they stand -/
structure Bs (P : Program) (w : World) (K : PySem.W.Frag) (mg : Str → Option Value) (base : Heap) (G : Ga) (prog : Nat → Option FD) : Prop where
  blt : ∀ x ∈ bltNames, mg x = none
  cn : ∀ x d, G.cn.lookup x = some d → ∃ u v, mg x = some u ∧ RelV v u ∧ ∀ cs Av H, Rp K cs Av H v d
  fn : ∀ f x, G.fn.lookup f = some x → ∃ (y : Str) (d : FD) (N ps : List Str) (params : Arguments) (body : List Stmt) (scope : Scope) (a : Addr) (fd : FuncData), prog f = some d ∧ mg x = some (.ref a) ∧
    FunD K y y params body scope [] [] a fd ∧ FnScope N ps scope ∧ chkSs { G with N := N } scope d.body body = true ∧ d.slots = N.length ∧ d.par = ps.length ∧ Binds K fd ps [] ∧
    ∀ ks perm, (f, ks, perm) ∈ G.kb → perm.length = ps.length ∧ ∀ ws : List Value, ws.length = ks.length → bindArgs fd ⟨[], ks.zip ws⟩ = pure (ps.zip (perm.map fun i => ws.getD i .none))
section
variable {P : Program} {w : World} {K : PySem.W.Frag} {mg : Str → Option Value} {base : Heap} {G : Ga} {prog : Nat → Option FD} {W k : Nat}
theorem evF_par {f : Nat} {ds : List D} {st : Sto} {r : RV × Sto} {d : FD} (hd : prog f = some d) : ∀ {k : Nat}, evF prog W k f ds st = some r → ds.length = d.par
  | 0, h => by simp [evF] at h
  | k + 1, h => by
    simp only [evF, hd] at h
    split at h
    · assumption
    · cases h
theorem evF_succ {f : Nat} {ds : List D} {st st' : Sto} {r : RV} {d : FD} (hd : prog f = some d) (h : evF prog W (k + 1) f ds st = some (r, st')) :
    st'.length = st.length ∧ ∃ fl, evSs (evF prog W k) W d.body (initE d.slots ds) st = some fl ∧ ((∃ ρ, fl = .nx ρ st' ∧ r = .v .none) ∨ fl = .rt r st') := by
  simp only [evF, hd] at h
  split at h
  · split at h
    · rename_i ρ st1 e
      split at h
      · rename_i hl
        cases h
        exact ⟨hl, _, e, .inl ⟨ρ, rfl, rfl⟩⟩
      · cases h
    · rename_i r1 st1 e
      split at h
      · rename_i hl
        cases h
        exact ⟨hl, _, e, .inr rfl⟩
      · cases h
    · cases h
  · cases h
/-- a body keeps its def's promise -/
theorem body_ok {N ps : List Str} {scope : Scope} {d : FD} {body : List Stmt} {X : Cx} {f : Nat} (c : Cq { G with N := N } (evF prog W k) k X) (hk : chkSs { G with N := N } X.env.scope d.body body = true) (hd : prog f = some d) (hs : d.slots = N.length) {vs : List V} {H : Hp} {Q : VK} {E : XK}
    (h : spF X.K (evF prog W (k + 1) f) ps.length vs H Q E) : ∃ t, PSs X body t ∧ t { nx := fun _ H' => Q .non H', rt := Q } (L2.start N vs) H := by
  obtain ⟨hlen, cs, Av, ds, st, r, st', ok, cl, rs, he, q⟩ := h
  obtain ⟨hl, fl, e, hfl⟩ := evF_succ hd he
  refine ⟨tSs X.K (evF prog W k) W d.body, (sSs _ _ _ W d.body).s c hk, H, Av, cs, Av, _, st, fl, SR.start ok cl rs hs, e, ?_⟩
  have same : ∀ {cs' : List Addr} {Av' : Addr → Prop} {H' : Hp}, Stp cs Av H cs' Av' H' → Cl X.K cs' Av' H' st' → cs' = cs := fun {cs' Av' H'} sp c' => by
    obtain ⟨e, rfl⟩ := sp.pre
    have h1 := c'.len
    have h2 := cl.len
    simp only [List.length_append] at h1
    have : e = [] := List.eq_nil_of_length_eq_zero (by omega)
    rw [this, List.append_nil]
  rcases hfl with ⟨ρ, rfl, rfl⟩ | rfl
  · intro cs' Av' H' σ' sp s
    have e := same sp s.cl
    subst e
    exact q .non H' s.ex (s.cl.av fun a h => .inl (s.sub a h)) (.vv .non)
  · intro cs' Av' H' v sp c' ex sub rp
    have e := same sp c'
    subst e
    refine q v H' ex (c'.av fun a h => .inl (sub a h)) ⟨?_, fun a es e1 e2 => (rp.2 a es e1 e2).av fun b h => .inl (h.imp (sub b) id)⟩
    have r1 := rp.1
    cases r with
    | v d => exact Rp.av (fun a h => .inl (sub a h)) r1
    | o es =>
      obtain ⟨a, us, e1, h0, h1, h2⟩ := r1
      exact ⟨a, us, e1, h0, h1, h2.av fun b h => .inl (h.imp (sub b) id)⟩
theorem cq_of {N ps : List Str} {qual : Str} {scope : Scope} {f : Addr} {cdv : Value} {A : Around} {outer : List Env} {s : Shared} {H : Hp} {E : XK} (g : Gd P w K mg base G (evF prog W k) k) (S : FnScope N ps scope)
    (hr : Room k (A.deeper (envOfC qual scope s.heap.objs.size f cdv))) (hg : A.guards = some []) :
    Cq { G with N := N } (evF prog W k) k (cxOf CX0 P w K mg base N qual scope f cdv A outer s H E).nox :=
  ⟨⟨rfl, rfl, hg, hr, S.nd, ⟨g.blt, g.cn, g.fn⟩⟩, rfl, fun _ => rfl, S.kind⟩
theorem gd_all (b : Bs P w K mg base G prog) (W : Nat) : ∀ k, Gd P w K mg base G (evF prog W k) k
  | 0 => by
    refine ⟨b.blt, b.cn, fun f x hx => ?_⟩
    obtain ⟨y, d, N, ps, params, body, scope, a, fd, h1, h2, h3, h4, h5, h6, h7, h8, h9⟩ := b.fn f x hx
    refine ⟨a, fd, ps, h2, h3.kp, ⟨fun vs H Q E h => h.1, fun A outer s H args us vs Q E _ _ _ _ _ h => ?_⟩, h8, fun ds st r h => by simp [evF] at h, h9⟩
    obtain ⟨_, cs, Av, ds, st, r, st', _, _, _, he, _⟩ := h
    simp [evF] at he
  | k + 1 => by
    have ih := gd_all b W k
    refine ⟨b.blt, b.cn, fun f x hx => ?_⟩
    obtain ⟨y, d, N, ps, params, body, scope, a, fd, h1, h2, h3, h4, h5, h6, h7, h8, h9⟩ := b.fn f x hx
    refine ⟨a, fd, ps, h2, h3.kp, ?_, h8, fun ds st r h => by rw [← h7]; exact evF_par h1 h, h9⟩
    obtain ⟨oc, od, dV, kV, doc, pm, an, cdv, ct, osl, e, lk, hcd, _, _⟩ := h3.ex
    refine fnG_of ⟨y, dV, kV, doc, pm, an, ct, e⟩ lk hcd h4 (fun vs H Q E h => h.1) fun A outer s H vs Q E hr hg h => ?_
    obtain ⟨t, p, q⟩ := body_ok (X := (cxOf CX0 P w K mg base N y scope a cdv A outer s H E).nox) (ps := ps) (scope := scope) (cq_of ih h4 hr hg) h5 h1 h6 h
    exact ⟨t, p.nox, q⟩
/-- what the law's def promises -/
def spLaw (K : PySem.W.Frag) (prog : Nat → Option FD) (W k : Nat) (d : FD) : Sp := fun vs H Q _ => ∃ (a : Addr) (ns : List Int) (st' : Sto), vs = [.ref a] ∧ SqL K H a (ns.map V.int) ∧
  evSs (evF prog W k) W d.body (initE d.slots [.list (ns.map .int)]) [] = some (.rt (.v (.bool true)) st') ∧ ∀ H', Q (.bl true) H'
theorem ok_law (b : Bs P w K mg base G prog) {N : List Str} {x qual : Str} {params : Arguments} {body : List Stmt} {scope : Scope} {a : Addr} {fd : FuncData} {d : FD} {xs : Str} (F : FunD K x qual params body scope [] [] a fd) (S : FnScope N [xs] scope)
    (hk : chkSs { G with N := N } scope d.body body = true) (hs : d.slots = N.length) : FnG P w K mg base (k + 1) a fd [xs] (spLaw K prog W k d) := by
  obtain ⟨oc, od, dV, kV, doc, pm, an, cdv, ct, osl, e, lk, hcd, _, _⟩ := F.ex
  refine fnG_of ⟨x, dV, kV, doc, pm, an, ct, e⟩ lk hcd S (fun vs H Q E ⟨a, ns, st', h, _⟩ => by rw [h]; rfl) fun A outer s H vs Q E hr hg ⟨a', ns, st', hv, hS, he, q⟩ => ?_
  subst hv
  have c : Cq { G with N := N } (evF prog W k) k (cxOf CX0 P w K mg base N qual scope a cdv A outer s H E).nox := cq_of (gd_all b W k) S hr hg
  refine ⟨tSs K (evF prog W k) W d.body, PSs.nox ((sSs _ _ _ W d.body).s c hk), H, fun _ => False, [], fun _ => False, _, [], _, SR.start (ds := [.list (ns.map .int)]) ⟨fun _ h => (by simp at h), fun _ h => h.elim⟩ ⟨rfl, List.nodup_nil, fun n a ds h => by simp at h⟩ (.cons (.lst (.inl fun h => h) hS (Rps.ints ns)) .nil) hs, he, ?_⟩
  intro cs' Av' H' v sp c' ex sub rp
  cases rp.1
  exact q H'
end
/-- an abstract heap with (or without) the script in it -/
def oneH (a : Addr) : Option HO → Hp
  | none => fun _ => none
  | some u => fun b => if b = a then some u else none
theorem oneH_ne {a b : Addr} {o : Option HO} (h : oneH a o b ≠ none) : b = a := by
  cases o with
  | none => exact absurd rfl h
  | some u =>
    by_cases e : b = a
    · exact e
    · exact absurd (if_neg e) h
/-- the law's call, from the promise of its def -/
theorem call_law {P : Program} {w : World} {K : PySem.W.Frag} {mg mb : Str → Option Value} {k : Nat} {f a : Addr} {fd : FuncData} {x : Str} {sp : Sp} {s : Shared} {us : List Value} (o : Option HO)
    (kin : K.In s.heap) (gl : s.heap.Ns mainGlobals mg) (bl : s.heap.Ns builtinsNs mb) (bo : ∀ x : Str, x ≠ "__name__" → mb x = bootBuiltins x) (nl : s.heap.NoLimit) (ng : s.gens = #[])
    (at_ : s.heap.get? a = some { cls := .type "list", data := .seq us.toArray }) (room : Room k callerA) (F : ∀ base : Heap, K.In base → base.Ns mainGlobals mg → FnG P w K mg base k f fd [x] sp)
    (bind : ∀ (s : Shared) (u : Value), BindsTo s fd ⟨[u], []⟩ [(x, u)]) (fz : ∀ u, o = some u → ∃ xs, u = .frz { cls := .type "list", data := .seq us.toArray } (.lst xs)) (hok : HOk P w (oneH a o) s.heap) (nk : ∀ u, o = some u → K.lookup a = none)
    (hsp : sp [.ref a] (oneH a o) (fun v _ => v = .bl true) fun _ _ _ => False) :
    codeAny (model P w) callerA (.call (.ref f) ⟨[.ref a], []⟩) (fun r t => r = .ok (.ret (.bool true)) ∧ OldK s.heap t.heap ∧ t.os = s.os ∧ AllBare t.gens) s := by
  generalize hH : oneH a o = H at hok hsp
  have only : ∀ {b : Addr}, H b ≠ none → b = a := fun {b} h => oneH_ne (o := o) (by rw [hH]; exact h)
  have some_of : ∀ {b : Addr}, H b ≠ none → ∃ u, o = some u := fun {b} h => by
    cases o with
    | none => exact absurd (by rw [← hH]; rfl) h
    | some u => exact ⟨u, rfl⟩
  have dictNo : ∀ {b : Addr} {ob : Obj} {es : Array DictEntry} {ep : Nat}, s.heap.get? b = some ob → ob.data = .dict es ep → H b = none := fun {b ob es ep} e d => by
    apply Classical.byContradiction
    intro h
    rw [only h, at_] at e
    cases e
    exact nomatch (show Data.seq us.toArray _ = Data.dict es ep from d)
  have ns : ∀ {b : Addr} {m : Str → Option Value}, s.heap.Ns b m → (hidT s.heap H).Ns b m := fun ⟨ob, es, ep, e, d, r⟩ => ⟨ob, es, ep, hidT_get e (dictNo e d), d, r⟩
  have kin' : K.In (hidT s.heap H) := fun b ob e => hidT_get (kin b ob e) (by
    apply Classical.byContradiction
    intro h
    obtain ⟨u, hu⟩ := some_of h
    rw [only h, nk u hu] at e
    cases e)
  obtain ⟨ml, l1, l2⟩ := nl
  have env : Env0 P w K mg (hidT s.heap H) callerA [] s H :=
    { frames := rfl
      mod := ⟨kin', ns gl, ⟨mb, ns bl, bo⟩, ⟨ml, ns l1, l2⟩⟩
      bs := fun b ob e => of_hidT e
      bsz := by rw [hidT_size]; exact Nat.le_refl _
      funs := trivial
      frf := fun b hb => by cases hb
      hok := hok
      bare := .of_eq ng }
  have run := (F _ kin' (ns gl)).run callerA [] s H ⟨[.ref a], []⟩ [.ref a] [.ref a] _ _ room rfl env (bind s (.ref a)) (.cons rfl .nil) hsp
  refine codeAny_mono run fun r t h => ?_
  match r, h with
  | .ok (.ret u), h =>
    obtain ⟨v, H', hos, hbare, un, hok', rv, rfl⟩ := h
    cases (show u = Value.bool true from rv)
    refine ⟨rfl, OldK.of_keep fun b ob e => ?_, hos, hbare⟩
    by_cases hb : H b = none
    · exact un.keep b ob e hb (fun z => by cases z) (fun z => by cases z)
    · obtain rfl := only hb
      obtain ⟨u, hu⟩ := some_of hb
      obtain ⟨xs, rfl⟩ := fz u hu
      have e1 : H b = some (.frz { cls := .type "list", data := .seq us.toArray } (.lst xs)) := by rw [← hH, hu]; unfold oneH; exact if_pos rfl
      rw [at_] at e
      cases e
      exact (hok' b _ (un.frzs b _ _ e1)).1
theorem law_callG {P : Program} {w : World} {K : PySem.W.Frag} {mg mb : Str → Option Value} {k : Nat} {f a : Addr} {fd : FuncData} {x : Str} {sp : Sp} {s : Shared} {us : List Value} {ns : List Int}
    (kin : K.In s.heap) (gl : s.heap.Ns mainGlobals mg) (bl : s.heap.Ns builtinsNs mb) (bo : ∀ x : Str, x ≠ "__name__" → mb x = bootBuiltins x) (nl : s.heap.NoLimit) (ng : s.gens = #[])
    (at_ : s.heap.get? a = some { cls := .type "list", data := .seq us.toArray }) (ia : IntsAre us ns) (len : ns.length ≤ sizeLine) (room : Room k callerA) (F : ∀ base : Heap, K.In base → base.Ns mainGlobals mg → FnG P w K mg base k f fd [x] sp)
    (bind : ∀ (s : Shared) (u : Value), BindsTo s fd ⟨[u], []⟩ [(x, u)]) (hsp : ∀ H : Hp, SqL K H a (ns.map V.int) → sp [.ref a] H (fun v _ => v = .bl true) fun _ _ _ => False) :
    codeAny (model P w) callerA (.call (.ref f) ⟨[.ref a], []⟩) (fun r t => r = .ok (.ret (.bool true)) ∧ OldK s.heap t.heap ∧ t.os = s.os ∧ AllBare t.gens) s := by
  have rel : Vals (ns.map V.int) us := vals_ints ia
  cases q : K.lookup a with
  | none =>
    refine call_law (some (.frz { cls := .type "list", data := .seq us.toArray } (.lst (ns.map V.int)))) kin gl bl bo nl ng at_ room F bind (fun u e => by cases e; exact ⟨_, rfl⟩) (fun b u z => ?_) (fun _ _ => q) (hsp _ (.inl (.inr ⟨_, if_pos rfl⟩)))
    obtain rfl := oneH_ne (a := a) (b := b) (by rw [z]; simp)
    cases (show some _ = some u from (if_pos rfl).symm.trans z)
    exact ⟨at_, by simpa using len, us, _, rel, at_⟩
  | some ob =>
    have e := kin a ob q
    rw [at_] at e
    cases e
    refine call_law none kin gl bl bo nl ng at_ room F bind (fun u e => by cases e) (fun b u z => by cases z) (fun u e => by cases e) (hsp _ (.inr ⟨_, us.toArray, _, q, rfl, rfl, rfl, ?_, by simpa using rel⟩))
    rw [List.size_toArray, ia.length]
    exact len
/-- the end of a law over a head by facts -/
theorem walk_G {l : PySem.W.OpenLaw} {n k : Nat} {q : Program} {loose : List Str} {XP : (Str → Option Value) → Heap → Prop} {YP : World → Heap → Prop} {d : DefRec} {x : Str} (most : l.most = some n) (le : n ≤ sizeLine) (df : d.params.defaults = []) (room : Room k callerA)
    (F : ∀ (w : World) (mg : Str → Option Value) (f : Addr) (h : Heap), YP w h → h.Ns mainGlobals mg → mg d.name = some (.ref f) → ∃ (K : PySem.W.Frag) (fd : FuncData) (sp : Sp), K.In h ∧ (∀ (s : Shared) (u : Value), BindsTo s fd ⟨[u], []⟩ [(x, u)]) ∧
      (∀ (H : Hp) (a : Addr) (ns : List Int), ns.length ≤ n → SqL K H a (ns.map V.int) → sp [.ref a] H (fun v _ => v = .bl true) fun _ _ _ => False) ∧ ∀ base : Heap, K.In base → base.Ns mainGlobals mg → FnG l.prog w K mg base k f fd [x] sp) :
    PySem.W.WalkO q loose XP YP l.row.toRowW d [] (fun f vs => PySem.call f vs) := by
  apply Att.attach_call most df
  intro w _ s mg mb f _ _ _ _ a us ns G Y _ _ _ hmg at_ ia len ng
  obtain ⟨K, fd, sp, kin, bind, hsp, FF⟩ := F w mg f _ Y G.T.g hmg
  exact law_callG kin G.T.g G.T.b G.T.builtins G.T.nolimit ng at_ ia (Nat.le_trans len le) room FF bind fun H => hsp H a ns len

/-! ### a program by its table -/
structure EntOk (G : Ga) (prog : Nat → Option FD) (fa : List He.Fa) (fn : List He.DefD) (f : Nat) (x y : Str) (st : Stmt) (d : FD) (N ps : List Str) (i j : Nat) : Prop where
  pf : prog f = some d
  dn : fn[i]? = some ⟨(x, none), y, y, defArgs st, defBody st, defScope st, [], []⟩
  gl : fa[j]? = some (.glo x)
  sc : FnScope N ps (defScope st)
  ck : chkSs { G with N := N } (defScope st) d.body (defBody st) = true
  sl : d.slots = N.length
  pr : d.par = ps.length
  bd : ∀ (kV doc pm : Value) (an : Option Addr) (cdv ct : Value) (us : List Value), us.length = ps.length → bindArgs (PySem.W.fnOf y y (defArgs st) (defBody st) (defScope st) .none kV doc pm an cdv ct) ⟨us, []⟩ = pure (ps.zip us)
  kb : ∀ q ∈ G.kb.filter (fun q => q.1 == f), q.2.2.length = ps.length ∧ ∀ (kV doc pm : Value) (an : Option Addr) (cdv ct : Value) (ws : List Value), ws.length = q.2.1.length →
    bindArgs (PySem.W.fnOf y y (defArgs st) (defBody st) (defScope st) .none kV doc pm an cdv ct) ⟨[], q.2.1.zip ws⟩ = pure (ps.zip (q.2.2.map fun i => ws.getD i .none))
def AllE (G : Ga) (prog : Nat → Option FD) (fa : List He.Fa) (fn : List He.DefD) : List (Nat × Str) → Prop
  | [] => True
  | (f, x) :: r => (∃ y st d N ps i j, EntOk G prog fa fn f x y st d N ps i j) ∧ AllE G prog fa fn r
theorem AllE.get {G : Ga} {prog : Nat → Option FD} {fa : List He.Fa} {fn : List He.DefD} {f : Nat} {x : Str} : ∀ {l : List (Nat × Str)}, AllE G prog fa fn l → l.lookup f = some x → ∃ y st d N ps i j, EntOk G prog fa fn f x y st d N ps i j
  | (g, y) :: r, h, e => by
    rw [List.lookup_cons] at e
    split at e
    · rename_i hb
      cases e
      obtain rfl := eq_of_beq hb
      exact h.1
    · exact AllE.get h.2 e
/-- a constant of the module, told by a fact; a tuple of such by a table -/
def cnFa : Str × D → Option He.Fa
  | (x, .int i) => some (.int x i)
  | (x, .str z) => some (.str x z)
  | _ => none
def dvOf : D → Option He.Dv
  | .none => some .non
  | .bool b => some (.bl b)
  | .int i => some (.int i)
  | .str x => some (.str x)
  | _ => none
def dvsOf : List D → Option (List He.Dv)
  | [] => some []
  | d :: r => match dvOf d, dvsOf r with
    | some v, some vs => some (v :: vs)
    | _, _ => none
abbrev Tb : Type := List (Str × List He.Dv)
theorem rps_dvs {K K' : PySem.W.Frag} {cs : List Addr} {Av : Addr → Prop} {H : Hp} : ∀ {ds : List D} {vs : List He.Dv}, dvsOf ds = some vs → Rps K cs Av H (vs.map (He.Dv.v K')) ds
  | [], vs, h => by cases h; exact .nil
  | d :: r, vs, h => by
    unfold dvsOf at h
    split at h
    · rename_i v us e1 e2
      cases h
      refine .cons ?_ (rps_dvs e2)
      cases d <;> cases e1
      · exact .non
      · exact .bl _
      · exact .int _
      · exact .str _
    · cases h
/-- a written tuple without a dict -/
def tupC (K : PySem.W.Frag) (x : Str) (vs : List He.Dv) : Bool := He.tupB K x vs && (match K.lookup (He.ga K x) with
  | some o => o.dict.isNone
  | none => false)
theorem tupC_ok {K : PySem.W.Frag} {x : Str} {vs : List He.Dv} (h : tupC K x vs = true) (H : Hp) : SqD K H (He.ga K x) (vs.map (He.Dv.v K)) := by
  unfold tupC at h
  rw [Bool.and_eq_true] at h
  rcases He.tupB_ok h.1 (fun _ => none) with (z | ⟨_, z⟩) | ⟨o, its, n, h1, h2, h3, h4, h5⟩
  · cases z
  · cases z
  · have h6 := h.2
    rw [h1] at h6
    exact .inr ⟨o, its, n, h1, h2, Option.isNone_iff_eq_none.mp h6, h3, h4, h5⟩
def obsX (n : Nat) (fa : List He.Fa) (fn : List He.DefD) (tb : Tb) (g : Addr → Option Obj) : Bool × He.AlD := (tb.all fun t => tupC (He.frG g (He.asD g n)) t.1 t.2, He.obsDG n fa fn g)
def hookX (n : Nat) (fa : List He.Fa) (fn : List He.DefD) (tb : Tb) : PySem.W.Hook where
  α := Bool × He.AlD
  obs := fun s => obsX n fa fn tb s.heap.get?
  val := fun _ => (true, He.valD fn)
  says := fun _ h => ∃ K : PySem.W.Frag, K.In h ∧ He.SaysD fa fn K ∧ (tb.all fun t => tupC K t.1 t.2) = true
  of := fun _ _ e => ⟨_, He.frG_in, congrArg Prod.snd e, congrArg Prod.fst e⟩
  keeps := fun _ _ _ ⟨K, hK, c⟩ k => ⟨K, PySem.W.Frag.In.keeps hK k, c⟩
theorem obsX_eq {n : Nat} {fa : List He.Fa} {fn : List He.DefD} {tb : Tb} {g : Addr → Option Obj} {s : Shared} (h : ∀ a, g a = s.heap.get? a) : obsX n fa fn tb g = (hookX n fa fn tb).obs s := by
  have e : g = s.heap.get? := funext h
  rw [e] <;> rfl
def AllC (fa : List He.Fa) (tb : Tb) : List (Str × D) → Prop
  | [] => True
  | c :: r => ((∃ (j : Nat) (f : He.Fa), cnFa c = some f ∧ fa[j]? = some f) ∨ ∃ (j k : Nat) (ds : List D) (vs : List He.Dv), c.2 = .tuple ds ∧ dvsOf ds = some vs ∧ tb[k]? = some (c.1, vs) ∧ fa[j]? = some (.glo c.1)) ∧ AllC fa tb r
theorem AllC.get {fa : List He.Fa} {tb : Tb} {x : Str} {d : D} : ∀ {l : List (Str × D)}, AllC fa tb l → l.lookup x = some d →
    (∃ (j : Nat) (f : He.Fa), cnFa (x, d) = some f ∧ fa[j]? = some f) ∨ ∃ (j k : Nat) (ds : List D) (vs : List He.Dv), d = .tuple ds ∧ dvsOf ds = some vs ∧ tb[k]? = some (x, vs) ∧ fa[j]? = some (.glo x)
  | (y, e) :: r, h, q => by
    rw [List.lookup_cons] at q
    split at q
    · rename_i hb
      cases q
      obtain rfl := eq_of_beq hb
      exact h.1
    · exact AllC.get h.2 q
theorem bs_of {P : Program} {w : World} {K : PySem.W.Frag} {mg : Str → Option Value} {h base : Heap} {G : Ga} {prog : Nat → Option FD} {fa : List He.Fa} {fn : List He.DefD} (X : K.In h) (N : h.Ns mainGlobals mg) (c : He.SaysD fa fn K) {tb : Tb} (ct : (tb.all fun t => tupC K t.1 t.2) = true)
    (hb : ∀ x ∈ bltNames, ∃ j : Nat, fa[j]? = some (.free x)) (hc : AllC fa tb G.cn) (he : AllE G prog fa fn G.fn) : Bs P w K mg base G prog := by
  refine ⟨fun x hx => ?_, fun x d hx => ?_, fun f x hx => ?_⟩
  · obtain ⟨j, hj⟩ := hb x hx
    exact He.free_ok X N (c.fact j hj)
  · rcases hc.get hx with ⟨j, f, h1, h2⟩ | ⟨j, k, ds, vs, rfl, h1, h2, h3⟩
    case inr =>
      have q := List.all_eq_true.mp ct _ (List.mem_of_getElem? h2)
      exact ⟨_, .ref (He.ga K x), He.glo_ok X N (c.fact j h3), rfl, fun cs Av H => .tup (tupC_ok q H) (rps_dvs h1)⟩
    cases d with
    | int i =>
      cases h1
      obtain ⟨t, ht⟩ := He.int_ok X N (c.fact j h2)
      exact ⟨_, .int i, ht, ⟨t, rfl⟩, fun _ _ _ => .int i⟩
    | str z =>
      cases h1
      obtain ⟨t, ht⟩ := He.str_ok X N (c.fact j h2)
      exact ⟨_, .str z, ht, ⟨t, rfl⟩, fun _ _ _ => .str z⟩
    | _ => cases h1
  · obtain ⟨y, st, d, N', ps, i, j, e⟩ := he.get hx
    obtain ⟨fd, F⟩ := c.def_ i e.dn
    have bd : Binds K fd ps [] := FunD.bindsN F e.bd
    refine ⟨y, d, N', ps, _, _, _, _, fd, e.pf, He.glo_ok X N (c.fact j e.gl), F, e.sc, e.ck, e.sl, e.pr, bd, fun ks perm hm => ?_⟩
    obtain ⟨oc, od, dV, kV, doc, pm, an, cdv, ct, osl, rfl, lk, hcd, hD, hK⟩ := F.ex
    have hk := e.kb (f, ks, perm) (List.mem_filter.mpr ⟨hm, by simp⟩)
    refine ⟨hk.1, fun ws hl => ?_⟩
    rcases hD with ⟨_, rfl⟩ | ⟨z, _⟩
    · exact hk.2 kV doc pm an cdv ct ws hl
    · exact absurd rfl z
/-- a law by its table -/
theorem law_of {P : Program} {w : World} {K : PySem.W.Frag} {mg : Str → Option Value} {h : Heap} {G : Ga} {prog : Nat → Option FD} {fa : List He.Fa} {fn : List He.DefD} {f : Addr} {W k n : Nat} {d : FD} {st : Stmt} {N : List Str} {i j : Nat} (X : K.In h) (hn : h.Ns mainGlobals mg) (c : He.SaysD fa fn K) {tb : Tb} (ct : (tb.all fun t => tupC K t.1 t.2) = true)
    (hb : ∀ x ∈ bltNames, ∃ j : Nat, fa[j]? = some (.free x)) (hc : AllC fa tb G.cn) (he : AllE G prog fa fn G.fn) (hf : mg ("law" : Str) = some (.ref f))
    (dn : fn[i]? = some ⟨("law", none), "law", "law", defArgs st, defBody st, defScope st, [], []⟩) (gl : fa[j]? = some (.glo "law")) (sc : FnScope N ["script"] (defScope st)) (ck : chkSs { G with N := N } (defScope st) d.body (defBody st) = true) (sl : d.slots = N.length)
    (bd : ∀ (kV doc pm : Value) (an : Option Addr) (cdv ct : Value) (us : List Value), us.length = 1 → bindArgs (PySem.W.fnOf "law" "law" (defArgs st) (defBody st) (defScope st) .none kV doc pm an cdv ct) ⟨us, []⟩ = pure (((["script"] : List Str)).zip us))
    (pure_ : ∀ ns : List Int, ns.length ≤ n → ∃ st', evSs (evF prog W k) W d.body (initE d.slots [.list (ns.map .int)]) [] = some (.rt (.v (.bool true)) st')) :
    ∃ (K : PySem.W.Frag) (fd : FuncData) (sp : Sp), K.In h ∧ (∀ (s : Shared) (u : Value), BindsTo s fd ⟨[u], []⟩ [("script", u)]) ∧
      (∀ (H : Hp) (a : Addr) (ns : List Int), ns.length ≤ n → SqL K H a (ns.map V.int) → sp [.ref a] H (fun v _ => v = .bl true) fun _ _ _ => False) ∧ ∀ base : Heap, K.In base → base.Ns mainGlobals mg → FnG P w K mg base (k + 1) f fd ["script"] sp := by
  obtain ⟨fd, F⟩ := c.def_ i dn
  have e := hf.symm.trans (He.glo_ok X hn (c.fact j gl))
  cases e
  have b := FunD.bindsA (ps := ["script"]) F bd
  refine ⟨K, fd, spLaw K prog W k d, X, fun s v => b s [v] rfl, fun H a ns hl hS => ?_, fun base _ _ => ok_law (bs_of X hn c ct hb hc he) F sc ck sl⟩
  obtain ⟨st', hp⟩ := pure_ ns hl
  exact ⟨a, ns, st', rfl, hS, hp, fun _ => rfl⟩
end Ev

set_option Elab.async false
set_option linter.all false
set_option maxRecDepth 100000
set_option maxHeartbeats 4000000
/-! What a term is to reach: weakest conditions over the pure evaluator. -/
namespace Ev
open PySem
def wp {α : Type} (c : Option α) (Q : α → Prop) : Prop := ∃ a, c = some a ∧ Q a
section
variable {α β : Type} {Q : α → Prop}
@[simp] theorem wp_some {a : α} : wp (some a) Q ↔ Q a := ⟨fun ⟨b, e, q⟩ => (by cases e; exact q), fun q => ⟨a, rfl, q⟩⟩
@[simp] theorem wp_none : wp none Q ↔ False := ⟨fun ⟨b, e, _⟩ => (nomatch e), fun z => False.elim z⟩
theorem wp_mono {Q' : α → Prop} {c : Option α} (h : wp c Q) (i : ∀ a, Q a → Q' a) : wp c Q' := by
  obtain ⟨a, e, q⟩ := h
  exact ⟨a, e, i a q⟩
theorem wp_eq {c : Option α} {a : α} (h : c = some a) : wp c Q ↔ Q a := by rw [h]; exact wp_some
theorem wp_if {c : Prop} [Decidable c] {a : α} : wp (if c then some a else none) Q ↔ c ∧ Q a := by
  by_cases h : c
  · simp [h]
  · simp [h]
end
section
variable {F : FT} {ρ : Rho} {st : Sto} {Q : RV × Sto → Prop} {W : Nat}
theorem w_bind {α β : Type} {c : Option α} {f : α → Option β} {Q : β → Prop} {e : Option β} (h : e = c.bind f) : wp e Q ↔ wp c fun a => wp (f a) Q := by
  subst h
  cases c with
  | none => simp
  | some a => simp
@[simp] theorem wE_con {d} : wp (evE F (.con d) ρ st) Q ↔ Q (.v d, st) := by simp only [evE, wp_some]
@[simp] theorem wE_gl {x d} : wp (evE F (.gl x d) ρ st) Q ↔ Q (.v d, st) := by simp only [evE, wp_some]
@[simp] theorem wE_var {i} : wp (evE F (.var i) ρ st) Q ↔ ∃ d, ρ[i]? = some (some (.v d)) ∧ Q (.v d, st) := by
  simp only [evE]
  split
  · rename_i d h; rw [h]; simp
  · rename_i h; simp only [wp_none, false_iff, not_exists, not_and]; intro d e; exact absurd e (h d)
@[simp] theorem wE_peek {i} : wp (evE F (.peek i) ρ st) Q ↔ ∃ ds, ρ[i]? = some (some (.o ds)) ∧ Q (.v (.list ds), st) := by
  simp only [evE]
  split
  · rename_i d h; rw [h]; simp
  · rename_i h; simp only [wp_none, false_iff, not_exists, not_and]; intro d e; exact absurd e (h d)
@[simp] theorem wE_bin {o a b} : wp (evE F (.bin o a b) ρ st) Q ↔ wp (evE F a ρ st) fun p => wp (evE F b ρ p.2) fun q => wp (op2 o p.1.d q.1.d) fun z => Q (z, q.2) := by
  simp only [evE]
  cases evE F a ρ st with
  | none => simp
  | some p =>
    obtain ⟨x, st1⟩ := p
    simp only [wp_some]
    cases evE F b ρ st1 with
    | none => simp
    | some q =>
      obtain ⟨y, st2⟩ := q
      simp only [wp_some]
      cases op2 o x.d y.d <;> simp
@[simp] theorem wE_cmp {o a b} : wp (evE F (.cmp o a b) ρ st) Q ↔ wp (evE F a ρ st) fun p => wp (evE F b ρ p.2) fun q => wp (cmp2 o p.1.d q.1.d) fun z => Q (.v z, q.2) := by
  simp only [evE]
  cases evE F a ρ st with
  | none => simp
  | some p =>
    obtain ⟨x, st1⟩ := p
    simp only [wp_some]
    cases evE F b ρ st1 with
    | none => simp
    | some q =>
      obtain ⟨y, st2⟩ := q
      simp only [wp_some]
      cases cmp2 o x.d y.d <;> simp
@[simp] theorem wE_neg {a} : wp (evE F (.neg a) ρ st) Q ↔ wp (evE F a ρ st) fun p => ∃ i, p.1 = .v (.int i) ∧ Q (.v (.int (-i)), p.2) := by
  simp only [evE]
  split
  · rename_i h; rw [h]; simp
  · rename_i h
    simp only [wp_none, false_iff]
    rintro ⟨⟨x, s⟩, e, i, e2, _⟩
    cases e2
    exact h _ _ e
@[simp] theorem wE_cnt {a x} : wp (evE F (.cnt a x) ρ st) Q ↔ wp (evE F a ρ st) fun p => wp (evE F x ρ p.2) fun q => wp (cnt2 p.1.d q.1.d) fun z => Q (.v z, q.2) := by
  simp only [evE]
  cases evE F a ρ st with
  | none => simp
  | some p =>
    obtain ⟨y, st1⟩ := p
    simp only [wp_some]
    cases evE F x ρ st1 with
    | none => simp
    | some q =>
      obtain ⟨z, st2⟩ := q
      simp only [wp_some]
      cases cnt2 y.d z.d <;> simp
@[simp] theorem wE_idx {a x} : wp (evE F (.idx a x) ρ st) Q ↔ wp (evE F a ρ st) fun p => wp (evE F x ρ p.2) fun q => wp (idx2 p.1.d q.1.d) fun z => Q (.v z, q.2) := by
  simp only [evE]
  cases evE F a ρ st with
  | none => simp
  | some p =>
    obtain ⟨y, st1⟩ := p
    simp only [wp_some]
    cases evE F x ρ st1 with
    | none => simp
    | some q =>
      obtain ⟨z, st2⟩ := q
      simp only [wp_some]
      cases idx2 y.d z.d <;> simp
@[simp] theorem wE_dget {a b c} : wp (evE F (.dget a b c) ρ st) Q ↔ wp (evE F a ρ st) fun p => wp (evE F b ρ p.2) fun q => wp (evE F c ρ q.2) fun r => wp (dget3 p.1.d q.1.d r.1.d) fun z => Q (.v z, r.2) := by
  simp only [evE]
  cases evE F a ρ st with
  | none => simp
  | some p =>
    obtain ⟨y, st1⟩ := p
    simp only [wp_some]
    cases evE F b ρ st1 with
    | none => simp
    | some q =>
      obtain ⟨z, st2⟩ := q
      simp only [wp_some]
      cases evE F c ρ st2 with
      | none => simp
      | some r =>
        obtain ⟨u, st3⟩ := r
        simp only [wp_some]
        cases dget3 y.d z.d u.d <;> simp
@[simp] theorem wE_dlitI {is es} : wp (evE F (.dlitI is es) ρ st) Q ↔ wp (keysAt ρ is) fun ks => wp (evEs F es ρ st) fun p => (ks ≠ [] ∧ ks.length = p.1.length ∧ ks.Nodup ∧ ks.length ≤ 15) ∧ Q (.v (dOf ks p.1), p.2) := by
  simp only [evE]
  cases keysAt ρ is with
  | none => simp
  | some ks =>
    simp only [wp_some]
    cases evEs F es ρ st with
    | none => simp
    | some p =>
      obtain ⟨y, st1⟩ := p
      simp only [wp_some]
      by_cases h : ks ≠ [] ∧ ks.length = y.length ∧ ks.Nodup ∧ ks.length ≤ 15
      · rw [if_pos h, wp_some]
        exact ⟨fun q => ⟨h, q⟩, fun q => q.2⟩
      · rw [if_neg h, wp_none]
        exact ⟨False.elim, fun q => h q.1⟩
@[simp] theorem wE_sset {a} : wp (evE F (.sset a) ρ st) Q ↔ wp (evE F a ρ st) fun p => wp (sset1 p.1.d) fun z => Q (.o z, p.2) := by
  simp only [evE]
  cases evE F a ρ st with
  | none => simp
  | some p =>
    obtain ⟨y, st1⟩ := p
    simp only [wp_some]
    cases sset1 y.d <;> simp
@[simp] theorem wE_dlit {ks es} : wp (evE F (.dlit ks es) ρ st) Q ↔ wp (evEs F es ρ st) fun p => (ks.length = p.1.length ∧ ks.Nodup ∧ ks.length ≤ 15) ∧ Q (.v (dOf (ks.map .inr) p.1), p.2) := by
  simp only [evE]
  cases evEs F es ρ st with
  | none => simp
  | some p =>
    obtain ⟨y, st1⟩ := p
    simp only [wp_some]
    by_cases h : ks.length = y.length ∧ ks.Nodup ∧ ks.length ≤ 15
    · rw [if_pos h, wp_some]
      exact ⟨fun q => ⟨h, q⟩, fun q => q.2⟩
    · rw [if_neg h, wp_none]
      exact ⟨False.elim, fun q => h q.1⟩
@[simp] theorem wE_one {a} : wp (evE F (.one a) ρ st) Q ↔ wp (evE F a ρ st) Q := by simp only [evE]
@[simp] theorem wE_not {a} : wp (evE F (.not a) ρ st) Q ↔ wp (evE F a ρ st) fun p => wp (truth p.1.d) fun b => Q (.v (.bool (!b)), p.2) := by
  simp only [evE]
  cases evE F a ρ st with
  | none => simp
  | some p =>
    obtain ⟨x, st1⟩ := p
    simp only [wp_some]
    cases truth x.d <;> simp
@[simp] theorem wE_and {a b} : wp (evE F (.and a b) ρ st) Q ↔ wp (evE F a ρ st) fun p => wp (truth p.1.d) fun t => if t = true then wp (evE F b ρ p.2) Q else Q p := by
  simp only [evE]
  cases evE F a ρ st with
  | none => simp
  | some p =>
    obtain ⟨x, st1⟩ := p
    simp only [wp_some]
    cases truth x.d with
    | none => simp
    | some t => cases t <;> simp
@[simp] theorem wE_or {a b} : wp (evE F (.or a b) ρ st) Q ↔ wp (evE F a ρ st) fun p => wp (truth p.1.d) fun t => if t = true then Q p else wp (evE F b ρ p.2) Q := by
  simp only [evE]
  cases evE F a ρ st with
  | none => simp
  | some p =>
    obtain ⟨x, st1⟩ := p
    simp only [wp_some]
    cases truth x.d with
    | none => simp
    | some t => cases t <;> simp
@[simp] theorem wE_ite {c a b} : wp (evE F (.ite c a b) ρ st) Q ↔ wp (evE F c ρ st) fun p => wp (truth p.1.d) fun t => if t = true then wp (evE F a ρ p.2) Q else wp (evE F b ρ p.2) Q := by
  simp only [evE]
  cases evE F c ρ st with
  | none => simp
  | some p =>
    obtain ⟨x, st1⟩ := p
    simp only [wp_some]
    cases truth x.d with
    | none => simp
    | some t => cases t <;> simp
theorem cmp2_b {o : Cm} {d e z : D} (h : cmp2 o d e = some z) : ∃ b, z = .bool b := by
  unfold cmp2 at h
  split at h
  all_goals first
    | (cases h; done)
    | (split at h <;> cases h <;> exact ⟨_, rfl⟩)
    | (cases h; exact ⟨_, rfl⟩)
    | (obtain ⟨b, _, rfl⟩ := Option.map_eq_some_iff.mp h; exact ⟨_, rfl⟩)
@[simp] theorem wE_chain {o o' a b c} : wp (evE F (.chain o o' a b c) ρ st) Q ↔ wp (evE F a ρ st) fun p => wp (evE F b ρ p.2) fun q => wp (cmp2 o p.1.d q.1.d) fun t => wp (truth t) fun k => if k = true then wp (evE F c ρ q.2) fun r => wp (cmp2 o' q.1.d r.1.d) fun z => Q (.v z, r.2) else Q (.v (.bool false), q.2) := by
  simp only [evE]
  cases evE F a ρ st with
  | none => simp
  | some p =>
    obtain ⟨x, st1⟩ := p
    simp only [wp_some]
    cases evE F b ρ st1 with
    | none => simp
    | some q =>
      obtain ⟨y, st2⟩ := q
      simp only [wp_some]
      cases h : cmp2 o x.d y.d with
      | none => simp
      | some t =>
        obtain ⟨k, rfl⟩ := cmp2_b h
        simp only [wp_some, truth]
        cases k with
        | false => simp
        | true =>
          simp only [if_true]
          cases evE F c ρ st2 with
          | none => simp
          | some r =>
            obtain ⟨z, st3⟩ := r
            simp only [wp_some]
            cases cmp2 o' y.d z.d <;> simp
@[simp] theorem wE_sub {a i} : wp (evE F (.sub a i) ρ st) Q ↔ wp (evE F a ρ st) fun p => wp (evE F i ρ p.2) fun q => wp (sub2 (look q.2 p.1.d) q.1.d) fun z => Q (.v z, q.2) := by
  simp only [evE]
  cases evE F a ρ st with
  | none => simp
  | some p =>
    obtain ⟨x, st1⟩ := p
    simp only [wp_some]
    cases evE F i ρ st1 with
    | none => simp
    | some q =>
      obtain ⟨y, st2⟩ := q
      simp only [wp_some]
      cases sub2 (look st2 x.d) y.d <;> simp
@[simp] theorem wE_sl {a lo hi} : wp (evE F (.sl a lo hi) ρ st) Q ↔ wp (evE F a ρ st) fun p => wp (evO F lo ρ p.2) fun l => wp (evO F hi ρ l.2) fun h => wp (sl3 p.1.d l.1 h.1) fun z => Q (z, h.2) := by
  simp only [evE]
  cases evE F a ρ st with
  | none => simp
  | some p =>
    obtain ⟨x, st1⟩ := p
    simp only [wp_some]
    cases evO F lo ρ st1 with
    | none => simp
    | some q =>
      obtain ⟨y, st2⟩ := q
      simp only [wp_some]
      cases evO F hi ρ st2 with
      | none => simp
      | some r =>
        obtain ⟨z, st3⟩ := r
        simp only [wp_some]
        cases sl3 x.d y z <;> simp
@[simp] theorem wO_none {Q : Option D × Sto → Prop} : wp (evO F .none ρ st) Q ↔ Q (none, st) := by simp only [evO, wp_some]
@[simp] theorem wO_some {a} {Q : Option D × Sto → Prop} : wp (evO F (.some a) ρ st) Q ↔ wp (evE F a ρ st) fun p => Q (some p.1.d, p.2) := by
  simp only [evO]
  cases evE F a ρ st with
  | none => simp
  | some p => obtain ⟨x, st1⟩ := p; simp
@[simp] theorem wE_rev {a} : wp (evE F (.rev a) ρ st) Q ↔ wp (evE F a ρ st) fun p => wp (rev1 p.1.d) fun z => Q (z, p.2) := by
  simp only [evE]
  cases evE F a ρ st with
  | none => simp
  | some p =>
    obtain ⟨x, st1⟩ := p
    simp only [wp_some]
    cases rev1 x.d <;> simp
@[simp] theorem wE_tup {es} : wp (evE F (.tup es) ρ st) Q ↔ wp (evEs F es ρ st) fun p => p.1.length ≤ maxLen ∧ Q (.v (.tuple p.1), p.2) := by
  simp only [evE]
  cases evEs F es ρ st with
  | none => simp
  | some p =>
    obtain ⟨x, st1⟩ := p
    simp only [wp_some]
    by_cases h : x.length ≤ maxLen <;> simp [h]
@[simp] theorem wE_lst {es} : wp (evE F (.lst es) ρ st) Q ↔ wp (evEs F es ρ st) fun p => p.1.length ≤ maxLen ∧ Q (.o p.1, p.2) := by
  simp only [evE]
  cases evEs F es ρ st with
  | none => simp
  | some p =>
    obtain ⟨x, st1⟩ := p
    simp only [wp_some]
    by_cases h : x.length ≤ maxLen <;> simp [h]
@[simp] theorem wE_call {f es} : wp (evE F (.call f es) ρ st) Q ↔ wp (evEs F es ρ st) fun p => wp (F f p.1 p.2) Q := by
  simp only [evE]
  cases evEs F es ρ st with
  | none => simp
  | some p => obtain ⟨x, st1⟩ := p; simp
@[simp] theorem wE_callk {f es perm} : wp (evE F (.callk f es perm) ρ st) Q ↔ wp (evEs F es ρ st) fun p => wp (F f (permD p.1 perm) p.2) Q := by
  simp only [evE]
  cases evEs F es ρ st with
  | none => simp
  | some p => obtain ⟨x, st1⟩ := p; simp
@[simp] theorem wE_blt {b es} : wp (evE F (.blt b es) ρ st) Q ↔ wp (evEs F es ρ st) fun p => wp (blt b p.1) fun z => Q (z, p.2) := by
  simp only [evE]
  cases evEs F es ρ st with
  | none => simp
  | some p =>
    obtain ⟨x, st1⟩ := p
    simp only [wp_some]
    cases blt b x <;> simp
@[simp] theorem wE_isi {t a} : wp (evE F (.isi t a) ρ st) Q ↔ wp (evE F a ρ st) fun p => wp (isi t p.1.d) fun b => Q (.v (.bool b), p.2) := by
  simp only [evE]
  cases evE F a ρ st with
  | none => simp
  | some p =>
    obtain ⟨x, st1⟩ := p
    simp only [wp_some]
    cases isi t x.d <;> simp
@[simp] theorem wE_lrng {es} : wp (evE F (.lrng es) ρ st) Q ↔ wp (evEs F es ρ st) fun p => wp (rangeOf p.1) fun z => Q (.o z, p.2) := by
  simp only [evE]
  cases evEs F es ρ st with
  | none => simp
  | some p =>
    obtain ⟨x, st1⟩ := p
    simp only [wp_some]
    cases rangeOf x <;> simp
@[simp] theorem wE_trng {es} : wp (evE F (.trng es) ρ st) Q ↔ wp (evEs F es ρ st) fun p => wp (rangeOf p.1) fun z => Q (.v (.tuple z), p.2) := by
  simp only [evE]
  cases evEs F es ρ st with
  | none => simp
  | some p =>
    obtain ⟨x, st1⟩ := p
    simp only [wp_some]
    cases rangeOf x <;> simp
/-- one item of a comprehension -/
def itemF (F : FT) (own : List Nat) (tg : Tg) (ifs : CEs) (elt : CE) (ρ : Rho) : D → Sto → Option (List D × Sto) := fun d st => match bindTg tg d (wipeE ρ own) with
  | some ρ1 => match evIfs F ifs ρ1 st with
    | some (true, st2) => match evE F elt ρ1 st2 with
      | some (y, st3) => some ([y.d], st3)
      | none => none
    | some (false, st2) => some ([], st2)
    | none => none
  | none => none
@[simp] theorem w_item {own tg ifs elt d} {Q : List D × Sto → Prop} : wp (itemF F own tg ifs elt ρ d st) Q ↔ wp (bindTg tg d (wipeE ρ own)) fun ρ1 => wp (evIfs F ifs ρ1 st) fun t => if t.1 = true then wp (evE F elt ρ1 t.2) fun y => Q ([y.1.d], y.2) else Q ([], t.2) := by
  unfold itemF
  cases bindTg tg d (wipeE ρ own) with
  | none => simp
  | some ρ1 =>
    simp only [wp_some]
    cases evIfs F ifs ρ1 st with
    | none => simp
    | some t =>
      obtain ⟨b, st2⟩ := t
      cases b with
      | false => simp
      | true =>
        simp only [wp_some, if_true]
        cases evE F elt ρ1 st2 with
        | none => simp
        | some y => obtain ⟨y, st3⟩ := y; simp
def itemF2 (F : FT) (own : List Nat) (tg : Tg) (ifs : CEs) (tg1 : Tg) (it1 : CI) (ifs1 : CEs) (elt : CE) (ρ : Rho) : D → Sto → Option (List D × Sto) := fun d st => match bindTg tg d (wipeE (hideO ρ) own) with
  | some ρ1 => match evIfs F ifs ρ1 st with
    | some (true, st2) => match evI F it1 ρ1 st2 with
      | some (es, st3) => mapM (itemF F (slotsOf tg1) tg1 ifs1 elt ρ1) es st3
      | none => none
    | some (false, st2) => some ([], st2)
    | none => none
  | none => none
@[simp] theorem w_item2 {own tg ifs tg1 it1 ifs1 elt d} {Q : List D × Sto → Prop} : wp (itemF2 F own tg ifs tg1 it1 ifs1 elt ρ d st) Q ↔ wp (bindTg tg d (wipeE (hideO ρ) own)) fun ρ1 => wp (evIfs F ifs ρ1 st) fun t => if t.1 = true then wp (evI F it1 ρ1 t.2) fun y => wp (mapM (itemF F (slotsOf tg1) tg1 ifs1 elt ρ1) y.1 y.2) Q else Q ([], t.2) := by
  unfold itemF2
  cases bindTg tg d (wipeE (hideO ρ) own) with
  | none => simp
  | some ρ1 =>
    simp only [wp_some]
    cases evIfs F ifs ρ1 st with
    | none => simp
    | some t =>
      obtain ⟨b, st2⟩ := t
      cases b with
      | false => simp
      | true =>
        simp only [wp_some, if_true]
        cases evI F it1 ρ1 st2 with
        | none => simp
        | some y => obtain ⟨y, st3⟩ := y; simp
@[simp] theorem wE_comp2 {own tg it ifs tg1 it1 ifs1 elt} : wp (evE F (.comp2 own tg it ifs tg1 it1 ifs1 elt) ρ st) Q ↔ wp (evI F it ρ st) fun p => wp (mapM (itemF2 F own tg ifs tg1 it1 ifs1 elt ρ) p.1 p.2) fun q => q.1.length ≤ maxLen ∧ Q (.o q.1, q.2) := by
  simp only [evE]
  cases evI F it ρ st with
  | none => simp
  | some p =>
    obtain ⟨x, st1⟩ := p
    simp only [wp_some]
    show wp (match mapM (itemF2 F own tg ifs tg1 it1 ifs1 elt ρ) x st1 with
      | some (ys, st2) => if ys.length ≤ maxLen then some (RV.o ys, st2) else none
      | none => none) Q ↔ _
    cases mapM (itemF2 F own tg ifs tg1 it1 ifs1 elt ρ) x st1 with
    | none => simp
    | some q =>
      obtain ⟨ys, st2⟩ := q
      by_cases h : ys.length ≤ maxLen <;> simp [h]
@[simp] theorem wE_comp {own tg it ifs elt} : wp (evE F (.comp own tg it ifs elt) ρ st) Q ↔ wp (evI F it ρ st) fun p => wp (mapM (itemF F own tg ifs elt ρ) p.1 p.2) fun q => q.1.length ≤ maxLen ∧ Q (.o q.1, q.2) := by
  simp only [evE]
  cases evI F it ρ st with
  | none => simp
  | some p =>
    obtain ⟨x, st1⟩ := p
    simp only [wp_some]
    show wp (match mapM (itemF F own tg ifs elt ρ) x st1 with
      | some (ys, st2) => if ys.length ≤ maxLen then some (RV.o ys, st2) else none
      | none => none) Q ↔ _
    cases mapM (itemF F own tg ifs elt ρ) x st1 with
    | none => simp
    | some q =>
      obtain ⟨ys, st2⟩ := q
      simp only [wp_some]
      by_cases h : ys.length ≤ maxLen <;> simp [h]
@[simp] theorem wEs_nil {Q : List D × Sto → Prop} : wp (evEs F .nil ρ st) Q ↔ Q ([], st) := by simp only [evEs, wp_some]
@[simp] theorem wEs_cons {e r} {Q : List D × Sto → Prop} : wp (evEs F (.cons false e r) ρ st) Q ↔ wp (evE F e ρ st) fun p => wp (evEs F r ρ p.2) fun q => Q (p.1.d :: q.1, q.2) := by
  simp only [evEs]
  cases evE F e ρ st with
  | none => simp
  | some p =>
    obtain ⟨x, st1⟩ := p
    simp only [wp_some]
    cases evEs F r ρ st1 with
    | none => simp
    | some q => obtain ⟨y, st2⟩ := q; simp
/-- the items of a starred value -/
def itemsOf : D → Option (List D)
  | .tuple xs => some xs
  | .list xs => some xs
  | _ => none
@[simp] theorem wEs_star {e r} {Q : List D × Sto → Prop} : wp (evEs F (.cons true e r) ρ st) Q ↔ wp (evE F e ρ st) fun p => wp (evEs F r ρ p.2) fun q => wp (itemsOf p.1.d) fun xs => Q (xs ++ q.1, q.2) := by
  simp only [evEs]
  cases evE F e ρ st with
  | none => simp
  | some p =>
    obtain ⟨x, st1⟩ := p
    simp only [wp_some]
    cases evEs F r ρ st1 with
    | none => simp
    | some q =>
      obtain ⟨y, st2⟩ := q
      simp only [wp_some]
      cases x.d <;> simp [itemsOf]
@[simp] theorem wIf_nil {Q : Bool × Sto → Prop} : wp (evIfs F .nil ρ st) Q ↔ Q (true, st) := by simp only [evIfs, wp_some]
@[simp] theorem wIf_cons {s e r} {Q : Bool × Sto → Prop} : wp (evIfs F (.cons s e r) ρ st) Q ↔ wp (evE F e ρ st) fun p => wp (truth p.1.d) fun t => if t = true then wp (evIfs F r ρ p.2) Q else Q (false, p.2) := by
  simp only [evIfs]
  cases evE F e ρ st with
  | none => simp
  | some p =>
    obtain ⟨x, st1⟩ := p
    simp only [wp_some]
    cases truth x.d with
    | none => simp
    | some t => cases t <;> simp
@[simp] theorem wI_seq {e} {Q : List D × Sto → Prop} : wp (evI F (.seq e) ρ st) Q ↔ wp (evE F e ρ st) fun p => wp (itemsOf p.1.d) fun xs => Q (xs, p.2) := by
  simp only [evI]
  cases evE F e ρ st with
  | none => simp
  | some p =>
    obtain ⟨x, st1⟩ := p
    simp only [wp_some]
    cases x.d <;> simp [itemsOf]
@[simp] theorem wI_rng {es} {Q : List D × Sto → Prop} : wp (evI F (.rng es) ρ st) Q ↔ wp (evEs F es ρ st) fun p => wp (rangeOf p.1) fun xs => Q (xs, p.2) := by
  simp only [evI]
  cases evEs F es ρ st with
  | none => simp
  | some p =>
    obtain ⟨x, st1⟩ := p
    simp only [wp_some]
    cases rangeOf x <;> simp
def enumOf (ds : List D) : List D := ds.zipIdx.map (fun p => .tuple [.int (p.2 : Nat), p.1])
def zipOf (a b : D) : Option (List D) := match a, b with
  | .tuple xs, .tuple ys => some ((xs.zip ys).map (fun p => .tuple [p.1, p.2]))
  | .list xs, .list ys => some ((xs.zip ys).map (fun p => .tuple [p.1, p.2]))
  | _, _ => none
@[simp] theorem wI_zip {a b} {Q : List D × Sto → Prop} : wp (evI F (.zip a b) ρ st) Q ↔ wp (evE F a ρ st) fun p => wp (evE F b ρ p.2) fun q => wp (zipOf p.1.d q.1.d) fun z => Q (z, q.2) := by
  simp only [evI]
  cases evE F a ρ st with
  | none => simp
  | some p =>
    obtain ⟨x, st1⟩ := p
    simp only [wp_some]
    cases evE F b ρ st1 with
    | none => simp
    | some q =>
      obtain ⟨y, st2⟩ := q
      simp only [wp_some]
      unfold zipOf
      cases hx : x.d <;> cases hy : y.d <;> simp
@[simp] theorem wI_enum {e} {Q : List D × Sto → Prop} : wp (evI F (.enum e) ρ st) Q ↔ wp (evE F e ρ st) fun p => wp (itemsOf p.1.d) fun xs => Q (enumOf xs, p.2) := by
  simp only [evI]
  cases evE F e ρ st with
  | none => simp
  | some p =>
    obtain ⟨x, st1⟩ := p
    simp only [wp_some]
    cases x.d <;> simp [itemsOf, enumOf]
end
/-! ### statements -/
section
variable {F : FT} {ρ : Rho} {st : Sto} {Q : Fl → Prop} {W : Nat}
@[simp] theorem wS_expr {e} : wp (evS F W (.expr e) ρ st) Q ↔ wp (evE F e ρ st) fun p => Q (.nx ρ p.2) := by
  simp only [evS]
  cases evE F e ρ st with
  | none => simp
  | some p => obtain ⟨x, st1⟩ := p; simp
@[simp] theorem wS_asg {t e} : wp (evS F W (.asg t e) ρ st) Q ↔ wp (evE F e ρ st) fun p => wp (bindTg t p.1.d ρ) fun ρ1 => Q (.nx ρ1 p.2) := by
  simp only [evS]
  cases evE F e ρ st with
  | none => simp
  | some p =>
    obtain ⟨x, st1⟩ := p
    simp only [wp_some]
    cases bindTg t x.d ρ <;> simp
@[simp] theorem wS_asgO {i e} : wp (evS F W (.asgO i e) ρ st) Q ↔ wp (evE F e ρ st) fun p => ∃ ds, p.1 = .o ds ∧ Q (.nx (ρ.set i (some (.o ds))) p.2) := by
  simp only [evS]
  cases evE F e ρ st with
  | none => simp
  | some p =>
    obtain ⟨x, st1⟩ := p
    cases x <;> simp
@[simp] theorem wS_par {is es} : wp (evS F W (.par is es) ρ st) Q ↔ wp (evPar F is es ρ ρ st) fun p => Q (.nx p.1 p.2) := by
  simp only [evS]
  cases evPar F is es ρ ρ st with
  | none => simp
  | some p => obtain ⟨x, st1⟩ := p; simp
@[simp] theorem wPar_nil {ρ1 : Rho} {Q : Rho × Sto → Prop} : wp (evPar F [] .nil ρ ρ1 st) Q ↔ Q (ρ1, st) := by simp only [evPar, wp_some]
@[simp] theorem wPar_v {ρ1 : Rho} {i is e r} {Q : Rho × Sto → Prop} : wp (evPar F ((i, false) :: is) (.cons false e r) ρ ρ1 st) Q ↔ wp (evE F e ρ st) fun p => wp (evPar F is r ρ (ρ1.set i (some (.v p.1.d))) p.2) Q := by
  simp only [evPar]
  cases evE F e ρ st with
  | none => simp
  | some p => obtain ⟨x, st1⟩ := p; simp
@[simp] theorem wPar_o {ρ1 : Rho} {i is e r} {Q : Rho × Sto → Prop} : wp (evPar F ((i, true) :: is) (.cons false e r) ρ ρ1 st) Q ↔ wp (evE F e ρ st) fun p => ∃ ds, p.1 = .o ds ∧ wp (evPar F is r ρ (ρ1.set i (some (.o ds))) p.2) Q := by
  simp only [evPar]
  cases evE F e ρ st with
  | none => simp
  | some p =>
    obtain ⟨x, st1⟩ := p
    cases x <;> simp
@[simp] theorem wS_ret {e} : wp (evS F W (.ret e) ρ st) Q ↔ wp (evE F e ρ st) fun p => Q (.rt p.1 p.2) := by
  simp only [evS]
  cases evE F e ρ st with
  | none => simp
  | some p => obtain ⟨x, st1⟩ := p; simp
@[simp] theorem wS_retO {i} : wp (evS F W (.retO i) ρ st) Q ↔ ∃ ds, ρ[i]? = some (some (.o ds)) ∧ Q (.rt (.o ds) st) := by
  simp only [evS]
  split
  · rename_i d h; rw [h]; simp
  · rename_i h; simp only [wp_none, false_iff, not_exists, not_and]; intro d e; exact absurd e (h d)
@[simp] theorem wS_ite {c a b} : wp (evS F W (.ite c a b) ρ st) Q ↔ wp (evE F c ρ st) fun p => wp (truth p.1.d) fun t => if t = true then wp (evSs F W a ρ p.2) Q else wp (evSs F W b ρ p.2) Q := by
  simp only [evS]
  cases evE F c ρ st with
  | none => simp
  | some p =>
    obtain ⟨x, st1⟩ := p
    simp only [wp_some]
    cases truth x.d with
    | none => simp
    | some t => cases t <;> simp
/-- a turn of a loop -/
def turnF (F : FT) (W : Nat) (t : Tg) (b : CSs) : D → Rho → Sto → Option Fl := fun d ρ st => match bindTg t d ρ with
  | some ρ1 => evSs F W b ρ1 st
  | none => none
@[simp] theorem w_turn {t b d} : wp (turnF F W t b d ρ st) Q ↔ wp (bindTg t d ρ) fun ρ1 => wp (evSs F W b ρ1 st) Q := by
  unfold turnF
  cases bindTg t d ρ <;> simp
@[simp] theorem wS_for {t it b} : wp (evS F W (.for_ t it b) ρ st) Q ↔ wp (evI F it ρ st) fun p => wp (loop (turnF F W t b) p.1 ρ p.2) Q := by
  simp only [evS]
  cases evI F it ρ st with
  | none => simp
  | some p =>
    obtain ⟨x, st1⟩ := p
    simp only [wp_some]
    exact Iff.rfl
@[simp] theorem wS_app {i e} : wp (evS F W (.app i e) ρ st) Q ↔ wp (evE F e ρ st) fun p => ∃ ds, ρ[i]? = some (some (.o ds)) ∧ ds.length < maxLen ∧ Q (.nx (ρ.set i (some (.o (ds ++ [p.1.d])))) p.2) := by
  simp only [evS]
  cases evE F e ρ st with
  | none => simp
  | some p =>
    obtain ⟨x, st1⟩ := p
    simp only [wp_some]
    split
    · rename_i ds h
      rw [h]
      by_cases hl : ds.length < maxLen <;> simp [hl]
    · rename_i h; simp only [wp_none, false_iff, not_exists, not_and]; intro d e; exact absurd e (h d)
@[simp] theorem wS_ext {i e} : wp (evS F W (.ext i e) ρ st) Q ↔ wp (evE F e ρ st) fun p => ∃ xs ds, p.1 = .o xs ∧ ρ[i]? = some (some (.o ds)) ∧ ds.length + xs.length ≤ maxLen ∧ Q (.nx (ρ.set i (some (.o (ds ++ xs)))) p.2) := by
  simp only [evS]
  cases evE F e ρ st with
  | none => simp
  | some p =>
    obtain ⟨x, st1⟩ := p
    cases x with
    | v d => simp
    | o xs =>
      simp only [wp_some]
      split
      · rename_i ds h
        rw [h]
        by_cases hl : ds.length + xs.length ≤ maxLen <;> simp [hl]
      · rename_i h
        simp only [wp_none, false_iff]
        rintro ⟨ys, ds, e1, e2, _⟩
        exact h _ e2
@[simp] theorem wS_appPop {t i e} {Q : Fl → Prop} : wp (evS F W (.appPop t i e) ρ st) Q ↔ wp (evE F e ρ st) fun p => ∃ n ds us j d, p.1 = .v (.int n) ∧ ρ[i]? = some (some (.o ds)) ∧ ρ[t]? = some (some (.o us)) ∧ L2.ixN ds.length n = some j ∧ (ds.length ≤ maxLen ∧ us.length < maxLen ∧ t ≠ i) ∧ ds[j]? = some d ∧ Q (.nx ((ρ.set i (some (.o (ds.eraseIdx j)))).set t (some (.o (us ++ [d])))) p.2) := by
  simp only [evS]
  split
  · rename_i n st1 h
    rw [h]
    simp only [wp_some]
    split
    · rename_i ds us h1 h2
      split
      · rename_i j hj
        split
        · rename_i hc
          split
          · rename_i d hd
            simp only [wp_some]
            constructor
            · exact fun q => ⟨n, ds, us, j, d, rfl, h1, h2, hj, hc, hd, q⟩
            · rintro ⟨n', ds', us', j', d', e0, e1, e2, e3, e4, e5, q⟩
              cases e0
              rw [h1] at e1; cases e1
              rw [h2] at e2; cases e2
              rw [hj] at e3; cases e3
              rw [hd] at e5; cases e5
              exact q
          · rename_i hd
            simp only [wp_none, false_iff]
            rintro ⟨n', ds', us', j', d', e0, e1, e2, e3, e4, e5, q⟩
            cases e0
            rw [h1] at e1; cases e1
            rw [hj] at e3; cases e3
            rw [hd] at e5; cases e5
        · rename_i hc
          simp only [wp_none, false_iff]
          rintro ⟨n', ds', us', j', d', e0, e1, e2, e3, e4, e5, q⟩
          rw [h1] at e1; cases e1
          rw [h2] at e2; cases e2
          exact hc e4
      · rename_i hj
        simp only [wp_none, false_iff]
        rintro ⟨n', ds', us', j', d', e0, e1, e2, e3, e4, e5, q⟩
        cases e0
        rw [h1] at e1; cases e1
        rw [hj] at e3; cases e3
    · rename_i h1
      simp only [wp_none, false_iff]
      rintro ⟨n', ds', us', j', d', e0, e1, e2, e3, e4, e5, q⟩
      exact h1 _ _ e1 e2
  · rename_i h
    simp only [wp_none, false_iff]
    rintro ⟨⟨x, s⟩, e, n', ds', us', j', d', e0, _⟩
    cases e0
    exact h _ _ e
@[simp] theorem wS_popAt {i e} : wp (evS F W (.popAt i e) ρ st) Q ↔ wp (evE F e ρ st) fun p => ∃ n ds j, p.1 = .v (.int n) ∧ ρ[i]? = some (some (.o ds)) ∧ L2.ixN ds.length n = some j ∧ ds.length ≤ maxLen ∧ Q (.nx (ρ.set i (some (.o (ds.eraseIdx j)))) p.2) := by
  simp only [evS]
  cases evE F e ρ st with
  | none => simp
  | some p =>
    obtain ⟨x, st1⟩ := p
    simp only [wp_some]
    split
    · rename_i n st1' e
      cases e
      split
      · rename_i ds h
        rw [h]
        cases hj : L2.ixN ds.length n with
        | none => simp [hj]
        | some j => by_cases hl : ds.length ≤ maxLen <;> simp [hl, hj]
      · rename_i h
        simp only [wp_none, false_iff]
        rintro ⟨_, ds, j, _, e2, _⟩
        exact h _ e2
    · rename_i h
      simp only [wp_none, false_iff]
      rintro ⟨n, ds, j, e1, _⟩
      exact h n st1 (by rw [show x = _ from e1])
@[simp] theorem wS_setC {i ix e} : wp (evS F W (.setC i ix e) ρ st) Q ↔ wp (evE F e ρ st) fun p => wp (evE F ix ρ p.2) fun k => ∃ c n ds, ρ[i]? = some (some (.v c)) ∧ cellOf c = some n ∧ k.2[n]? = some ds ∧ wp (setAt ds k.1.d p.1.d) fun ds1 => Q (.nx ρ (k.2.set n ds1)) := by
  simp only [evS]
  cases evE F e ρ st with
  | none => simp
  | some p =>
    obtain ⟨x, st1⟩ := p
    simp only [wp_some]
    cases evE F ix ρ st1 with
    | none => simp
    | some k =>
      obtain ⟨k, st2⟩ := k
      simp only [wp_some]
      split
      · rename_i c h
        rw [h]
        cases hc : cellOf c with
        | none => simp [hc]
        | some n =>
          simp only
          cases hd : st2[n]? with
          | none => simp [hc, hd]
          | some ds =>
            cases hs : setAt ds k.d x.d <;> simp [hc, hd, hs]
      · rename_i h
        simp only [wp_none, false_iff]
        rintro ⟨c, n, ds, e1, _⟩
        exact h _ e1
@[simp] theorem wSs_nil : wp (evSs F W .nil ρ st) Q ↔ Q (.nx ρ st) := by simp only [evSs, wp_some]
/-- behind a statement -/
def seqQ (F : FT) (W : Nat) (r : CSs) (Q : Fl → Prop) : Fl → Prop
  | .nx ρ st => wp (evSs F W r ρ st) Q
  | fl => Q fl
@[simp] theorem seqQ_nx {r} : seqQ F W r Q (.nx ρ st) ↔ wp (evSs F W r ρ st) Q := Iff.rfl
@[simp] theorem seqQ_rt {r v} : seqQ F W r Q (.rt v st) ↔ Q (.rt v st) := Iff.rfl
@[simp] theorem seqQ_bk {r} : seqQ F W r Q (.bk ρ st) ↔ Q (.bk ρ st) := Iff.rfl
@[simp] theorem seqQ_ct {r} : seqQ F W r Q (.ct ρ st) ↔ Q (.ct ρ st) := Iff.rfl
@[simp] theorem wSs_cons {s r} : wp (evSs F W (.cons s r) ρ st) Q ↔ wp (evS F W s ρ st) (seqQ F W r Q) := by
  simp only [evSs]
  cases evS F W s ρ st with
  | none => simp
  | some fl => cases fl <;> simp
@[simp] theorem wS_freeze {i} : wp (evS F W (.freeze i) ρ st) Q ↔ ∃ ds, ρ[i]? = some (some (.o ds)) ∧ Q (.nx (ρ.set i (some (.v (.list ds)))) st) := by
  simp only [evS]
  split
  · rename_i d h; rw [h]; simp
  · rename_i h; simp only [wp_none, false_iff, not_exists, not_and]; intro d e; exact absurd e (h d)
@[simp] theorem wS_mkcell {i} : wp (evS F W (.mkcell i) ρ st) Q ↔ ∃ ds, ρ[i]? = some (some (.o ds)) ∧ Q (.nx (ρ.set i (some (.v (.dict [(.none, .int st.length)])))) (st ++ [ds])) := by
  simp only [evS]
  split
  · rename_i d h; rw [h]; simp
  · rename_i h; simp only [wp_none, false_iff, not_exists, not_and]; intro d e; exact absurd e (h d)
@[simp] theorem wS_bad : wp (evS F W .bad ρ st) Q ↔ False := by simp only [evS, wp_none]
@[simp] theorem wS_brk : wp (evS F W .brk ρ st) Q ↔ Q (.bk ρ st) := by simp only [evS, wp_some]
@[simp] theorem wS_cont : wp (evS F W .cont ρ st) Q ↔ Q (.ct ρ st) := by simp only [evS, wp_some]
theorem eq_of_wp {α : Type} {c : Option α} {a : α} (h : wp c fun x => x = a) : c = some a := by
  obtain ⟨b, e, rfl⟩ := h
  exact e
/-- a loop by its invariant -/
theorem wp_loop {f : D → Rho → Sto → Option Fl} {ds : List D} (I : Nat → Rho → Sto → Prop) (h0 : I 0 ρ st)
    (hs : ∀ i d ρ st, ds[i]? = some d → I i ρ st → wp (f d ρ st) fun fl => match fl with
      | .nx ρ' st' => I (i + 1) ρ' st'
      | .ct ρ' st' => I (i + 1) ρ' st'
      | .bk ρ' st' => Q (.nx ρ' st')
      | .rt v st' => Q (.rt v st')) (hd : ∀ ρ st, I ds.length ρ st → Q (.nx ρ st)) : wp (loop f ds ρ st) Q := by
  have key : ∀ (n i : Nat) (ρ : Rho) (st : Sto), n = ds.length - i → i ≤ ds.length → I i ρ st → wp (loop f (ds.drop i) ρ st) Q := by
    intro n
    induction n with
    | zero =>
      intro i ρ st hn hi h
      have : i = ds.length := by omega
      subst this
      rw [List.drop_length]
      simp only [loop, wp_some]
      exact hd ρ st h
    | succ n ih =>
      intro i ρ st hn hi h
      have hlt : i < ds.length := by omega
      obtain ⟨fl, e, q⟩ := hs i ds[i] ρ st (List.getElem?_eq_getElem hlt) h
      rw [List.drop_eq_getElem_cons hlt]
      simp only [loop, e]
      cases fl with
      | nx ρ' st' => exact ih (i + 1) ρ' st' (by omega) hlt q
      | ct ρ' st' => exact ih (i + 1) ρ' st' (by omega) hlt q
      | bk ρ' st' => exact wp_some.mpr q
      | rt v st' => exact wp_some.mpr q
  have := key ds.length 0 ρ st (by omega) (Nat.zero_le _) h0
  simpa using this
/-- a comprehension that leaves the store -/
theorem mapM_pure {f : D → Sto → Option (List D × Sto)} {g : D → List D} : ∀ {ds : List D}, (∀ d ∈ ds, f d st = some (g d, st)) → mapM f ds st = some ((ds.map g).flatten, st)
  | [], _ => rfl
  | d :: r, h => by
    simp only [mapM, h d (List.mem_cons_self ..), mapM_pure (ds := r) fun x hx => h x (List.mem_cons_of_mem _ hx)]
    simp
theorem wp_mapM {f : D → Sto → Option (List D × Sto)} {Q : List D × Sto → Prop} (I : List D → List D → Sto → Prop) : ∀ {ds pre out : List D} {st : Sto}, I pre out st →
    (∀ pre d out st, I pre out st → wp (f d st) fun p => I (pre ++ [d]) (out ++ p.1) p.2) → (∀ out' st', I (pre ++ ds) (out ++ out') st' → Q (out', st')) → wp (mapM f ds st) Q
  | [], pre, out, st, h, _, hq => by
    simp only [mapM, wp_some]
    exact hq [] st (by simpa using h)
  | d :: r, pre, out, st, h, hs, hq => by
    obtain ⟨⟨ys, st1⟩, e, h1⟩ := hs pre d out st h
    simp only [mapM, e]
    have := wp_mapM (Q := fun p => Q (ys ++ p.1, p.2)) I (ds := r) (pre := pre ++ [d]) (out := out ++ ys) (st := st1) h1 hs (fun out' st' h' => hq (ys ++ out') st' (by simpa using h'))
    obtain ⟨⟨zs, st2⟩, e2, q⟩ := this
    rw [e2]
    exact wp_some.mpr q
end
/-- a call's value -/
theorem w_fn {P : Nat → Option FD} {W k f : Nat} {ds : List D} {st : Sto} {Q : RV × Sto → Prop} {d : FD} (hd : P f = some d) (hl : ds.length = d.par)
    (h : wp (evSs (evF P W k) W d.body (initE d.slots ds) st) fun fl => match fl with
      | .nx _ st1 => st1.length = st.length ∧ Q (.v .none, st1)
      | .rt r st1 => st1.length = st.length ∧ Q (r, st1)
      | _ => False) : wp (evF P W (k + 1) f ds st) Q := by
  obtain ⟨fl, e, q⟩ := h
  simp only [evF, hd, hl, if_true, e]
  cases fl with
  | nx ρ st1 => simp only [q.1, if_true, wp_some]; exact q.2
  | rt r st1 => simp only [q.1, if_true, wp_some]; exact q.2
  | bk => exact q.elim
  | ct => exact q.elim
/-! ### the steps, as the simplifier takes them -/
section
variable {i j : Int} {b c : Bool} {xs ys : List D} {x y : Str} {d e : D}
@[simp] theorem d_v : (RV.v d).d = d := rfl
@[simp] theorem d_o : (RV.o xs).d = .list xs := rfl
@[simp] theorem tr_none : truth .none = some false := rfl
@[simp] theorem tr_bool : truth (.bool b) = some b := rfl
@[simp] theorem tr_int : truth (.int i) = some (i != 0) := rfl
@[simp] theorem tr_tup : truth (.tuple xs) = some (!xs.isEmpty) := rfl
@[simp] theorem tr_list : truth (.list xs) = some (!xs.isEmpty) := rfl
@[simp] theorem o_add : op2 .add (.int i) (.int j) = some (.v (.int (i + j))) := rfl
@[simp] theorem o_sub : op2 .sub (.int i) (.int j) = some (.v (.int (i - j))) := rfl
theorem o_mul (h : big i = true) (h' : big j = true) : op2 .mul (.int i) (.int j) = some (.v (.int (i * j))) := by simp [op2, h, h']
theorem o_div (h : 0 < j) (h' : big j = true) : op2 .fdiv (.int i) (.int j) = some (.v (.int (i / j))) := by simp [op2, h, h']
theorem o_mod (h : 0 < j) : op2 .mod (.int i) (.int j) = some (.v (.int (i % j))) := by simp [op2, h]
theorem o_addT (h : xs.length + ys.length ≤ maxLen) : op2 .add (.tuple xs) (.tuple ys) = some (.v (.tuple (xs ++ ys))) := by simp [op2, h]
@[simp] theorem c_lt : cmp2 .lt (.int i) (.int j) = some (.bool (decide (i < j))) := rfl
@[simp] theorem c_le : cmp2 .le (.int i) (.int j) = some (.bool (decide (i ≤ j))) := rfl
@[simp] theorem c_gt : cmp2 .gt (.int i) (.int j) = some (.bool (decide (j < i))) := rfl
@[simp] theorem c_ge : cmp2 .ge (.int i) (.int j) = some (.bool (decide (j ≤ i))) := rfl
theorem c_eq (h : flat d = true) (h' : flat e = true) : cmp2 .eq d e = some (.bool (PyData.eqv d e)) := by cases d <;> simp [cmp2, h, h']
theorem c_ne (h : flat d = true) (h' : flat e = true) : cmp2 .ne d e = some (.bool (!PyData.eqv d e)) := by cases d <;> simp [cmp2, h, h']
@[simp] theorem fl_int : flat (.int i) = true := (rfl)
@[simp] theorem fl_bool : flat (.bool b) = true := (rfl)
@[simp] theorem fl_str : flat (.str x) = true := (rfl)
@[simp] theorem fl_none : flat .none = true := (rfl)
@[simp] theorem s_tup : sub2 (.tuple xs) (.int i) = L2.atI xs i := rfl
@[simp] theorem s_list : sub2 (.list xs) (.int i) = L2.atI xs i := rfl
@[simp] theorem l_tup {st : Sto} : look st (.tuple xs) = .tuple xs := rfl
@[simp] theorem l_list {st : Sto} : look st (.list xs) = .list xs := rfl
@[simp] theorem b_lenT : blt .len [.tuple xs] = some (.v (.int xs.length)) := rfl
@[simp] theorem b_lenL : blt .len [.list xs] = some (.v (.int xs.length)) := rfl
@[simp] theorem b_abs : blt .abs [.int i] = some (.v (.int (if i < 0 then -i else i))) := rfl
@[simp] theorem b_max : blt .max2 [.int i, .int j] = some (.v (.int (if j > i then j else i))) := rfl
@[simp] theorem b_min : blt .min2 [.int i, .int j] = some (.v (.int (if j < i then j else i))) := rfl
@[simp] theorem b_int : blt .int [.int i] = some (.v (.int i)) := rfl
@[simp] theorem b_intB : blt .int [.bool b] = some (.v (.int (if b then 1 else 0))) := rfl
@[simp] theorem b_tupL : blt .tuple [.list xs] = some (.v (.tuple xs)) := rfl
@[simp] theorem b_tupT : blt .tuple [.tuple xs] = some (.v (.tuple xs)) := rfl
@[simp] theorem b_listL : blt .list [.list xs] = some (.o xs) := rfl
@[simp] theorem b_listT : blt .list [.tuple xs] = some (.o xs) := rfl
@[simp] theorem r_tup : rev1 (.tuple xs) = some (.v (.tuple xs.reverse)) := rfl
@[simp] theorem r_list : rev1 (.list xs) = some (.o xs.reverse) := rfl
@[simp] theorem it_tup : itemsOf (.tuple xs) = some xs := rfl
@[simp] theorem it_list : itemsOf (.list xs) = some xs := rfl
@[simp] theorem bi_nm {n : Nat} {ρ : Rho} : bindTg (.nm n) d ρ = some (ρ.set n (some (.v d))) := by simp only [bindTg]
@[simp] theorem bi_tp {ts : Tgs} {ρ : Rho} : bindTg (.tp ts) (.tuple xs) ρ = bindTgs ts xs ρ := by simp only [bindTg]
@[simp] theorem bi_nil {ρ : Rho} : bindTgs .nil [] ρ = some ρ := by simp only [bindTgs]
@[simp] theorem bi_cons {n : Nat} {r : Tgs} {ρ : Rho} : bindTgs (.cons (.nm n) r) (d :: xs) ρ = bindTgs r xs (ρ.set n (some (.v d))) := by simp only [bindTgs, bindTg]
@[simp] theorem bi_ct {ts r : Tgs} {ys : List D} {ρ : Rho} : bindTgs (.cons (.tp ts) r) (.tuple ys :: xs) ρ = (bindTgs ts ys ρ).bind fun ρ1 => bindTgs r xs ρ1 := by
  simp only [bindTgs, bindTg]
  cases bindTgs ts ys ρ <;> rfl
@[simp] theorem wi_nil {ρ : Rho} : wipeE ρ [] = ρ := rfl
@[simp] theorem wi_cons {ρ : Rho} {n : Nat} {r : List Nat} : wipeE ρ (n :: r) = (wipeE ρ r).set n none := rfl
@[simp] theorem is_int : isi .int (.int i) = some true := rfl
@[simp] theorem is_intB : isi .int (.bool b) = some true := rfl
@[simp] theorem is_intS : isi .int (.str x) = some false := rfl
@[simp] theorem is_intN : isi .int .none = some false := rfl
@[simp] theorem is_intT : isi .int (.tuple xs) = some false := rfl
@[simp] theorem is_intL : isi .int (.list xs) = some false := rfl
@[simp] theorem is_booI : isi .bool (.int i) = some false := rfl
@[simp] theorem is_booB : isi .bool (.bool b) = some true := rfl
@[simp] theorem is_tupT : isi .tup (.tuple xs) = some true := rfl
@[simp] theorem is_tupL : isi .tup (.list xs) = some false := rfl
@[simp] theorem is_tupI : isi .tup (.int i) = some false := rfl
@[simp] theorem is_tupB : isi .tup (.bool b) = some false := rfl
@[simp] theorem is_tupS : isi .tup (.str x) = some false := rfl
@[simp] theorem is_tupN : isi .tup .none = some false := rfl
@[simp] theorem kD_s {y : Str} : kD (.inr y) = .str y := rfl
@[simp] theorem kD_i {i : Int} : kD (.inl i) = .int i := rfl
@[simp] theorem kO_s {y : Str} : kOf (.str y) = some (.inr y) := rfl
@[simp] theorem kO_i {i : Int} : kOf (.int i) = some (.inl i) := rfl
@[simp] theorem is_strS {y : Str} : isi .str (.str y) = some true := rfl
@[simp] theorem is_strI : isi .str (.int i) = some false := rfl
@[simp] theorem is_strB : isi .str (.bool b) = some false := rfl
@[simp] theorem is_strN : isi .str .none = some false := rfl
@[simp] theorem is_strT : isi .str (.tuple xs) = some false := rfl
@[simp] theorem is_strL : isi .str (.list xs) = some false := rfl
@[simp] theorem sl_nm {n : Nat} : slotsOf (.nm n) = [n] := rfl
@[simp] theorem hi_nil : hideO [] = [] := rfl
@[simp] theorem hi_c {y : Option RV} {ρ : Rho} : hideO (y :: ρ) = noOwn y :: hideO ρ := rfl
@[simp] theorem no_v {d : D} : noOwn (some (.v d)) = some (.v d) := rfl
@[simp] theorem no_n : noOwn none = none := rfl
@[simp] theorem no_o {ds : List D} : noOwn (some (.o ds)) = none := rfl
@[simp] theorem in_0 {n : Nat} : initE n xs = (xs.map fun d => some (.v d)) ++ List.replicate (n - xs.length) none := rfl
end
theorem atI_nat {α : Type} {xs : List α} {n : Nat} : L2.atI xs (n : Int) = xs[n]? := by
  unfold L2.atI L2.ixN
  by_cases h : (n : Int) < xs.length
  · rw [if_pos (by omega), if_pos h]; simp
  · rw [if_pos (by omega), if_neg h]
    rw [List.getElem?_eq_none (by omega)]; rfl
@[simp] theorem atI_0 {α : Type} {a : α} {xs : List α} : L2.atI (a :: xs) 0 = some a := by
  have := atI_nat (xs := a :: xs) (n := 0)
  simpa using this
@[simp] theorem atI_1 {α : Type} {a b : α} {xs : List α} : L2.atI (a :: b :: xs) 1 = some b := by
  have := atI_nat (xs := a :: b :: xs) (n := 1)
  simpa using this
@[simp] theorem atI_2 {α : Type} {a b c : α} {xs : List α} : L2.atI (a :: b :: c :: xs) 2 = some c := by
  have := atI_nat (xs := a :: b :: c :: xs) (n := 2)
  simpa using this
/-! ### flat data, enumerate, comprehensions over mapped lists -/
section
variable {α : Type}
theorem sh_iff {n : Nat} : ∀ {xs : List D}, shalAll n xs = true ↔ ∀ d ∈ xs, shal n d = true
  | [] => by simp [shalAll, PyData.plainAll, PyData.depthAll]
  | x :: r => by
    have ih := sh_iff (n := n) (xs := r)
    simp only [shalAll, shal, PyData.plainAll, PyData.depthAll, Bool.and_eq_true, decide_eq_true_eq, Nat.max_le] at ih ⊢
    simp only [List.mem_cons, forall_eq_or_imp]
    rw [← ih]
    constructor
    · rintro ⟨⟨a, b⟩, c, d⟩; exact ⟨⟨a, c⟩, b, d⟩
    · rintro ⟨⟨a, c⟩, b, d⟩; exact ⟨⟨a, b⟩, c, d⟩
theorem sh_tup {n : Nat} {xs : List D} (h : ∀ d ∈ xs, shal n d = true) : shal (n + 1) (.tuple xs) = true := by
  have := sh_iff.mpr h
  simp only [shalAll, Bool.and_eq_true, decide_eq_true_eq] at this
  simp only [shal, PyData.plain, Bool.and_eq_true, decide_eq_true_eq]
  exact ⟨this.1, Nat.succ_le_succ this.2⟩
theorem sh_list {n : Nat} {xs : List D} (h : ∀ d ∈ xs, shal n d = true) : shal (n + 1) (.list xs) = true := by
  have := sh_iff.mpr h
  simp only [shalAll, Bool.and_eq_true, decide_eq_true_eq] at this
  simp only [shal, PyData.plain, Bool.and_eq_true, decide_eq_true_eq]
  exact ⟨this.1, Nat.succ_le_succ this.2⟩
theorem sh_int {n : Nat} {i : Int} : shal n (.int i) = true := by simp [shal, PyData.plain, PyData.depth]
theorem sh_bool {n : Nat} {b : Bool} : shal n (.bool b) = true := by simp [shal, PyData.plain, PyData.depth]
theorem sh_str {n : Nat} {x : Str} : shal n (.str x) = true := by simp [shal, PyData.plain, PyData.depth]
theorem sh_none {n : Nat} : shal n .none = true := by simp [shal, PyData.plain, PyData.depth]
theorem sh_mono {n m : Nat} {d : D} (h : shal n d = true) (l : n ≤ m) : shal m d = true := by
  simp only [shal, Bool.and_eq_true, decide_eq_true_eq] at h ⊢
  exact ⟨h.1, by omega⟩
theorem fl_sh {n : Nat} {d : D} (h : shal n d = true) (l : n ≤ 20) : flat d = true := sh_mono h l
mutual
theorem eqv_self : ∀ {d : D}, d.plain = true → PyData.eqv d d = true
  | .none, _ => by simp [PyData.eqv]
  | .bool _, _ => by simp [PyData.eqv]
  | .int _, _ => by simp [PyData.eqv]
  | .str _, _ => by simp [PyData.eqv]
  | .list xs, h => by rw [PyData.eqv]; exact eqvAll_self (by simpa [PyData.plain] using h)
  | .tuple xs, h => by rw [PyData.eqv]; exact eqvAll_self (by simpa [PyData.plain] using h)
  | .dict _, h => by simp [PyData.plain] at h
theorem eqvAll_self : ∀ {xs : List D}, PyData.plainAll xs = true → PyData.eqvAll xs xs = true
  | [], _ => by simp [PyData.eqvAll]
  | x :: r, h => by
    simp only [PyData.plainAll, Bool.and_eq_true] at h
    rw [PyData.eqvAll, eqv_self h.1, eqvAll_self h.2]; rfl
end
theorem eqv_same {n : Nat} {d : D} (h : shal n d = true) : PyData.eqv d d = true := eqv_self (by simp only [shal, Bool.and_eq_true] at h; exact h.1)
theorem enumOf_eq (ds : List D) : enumOf ds = (List.range ds.length).map fun i => .tuple [.int (i : Nat), ds.getD i .none] := by
  apply List.ext_getElem?
  intro i
  unfold enumOf
  simp only [List.getElem?_map, List.getElem?_zipIdx]
  by_cases h : i < ds.length
  · rw [List.getElem?_range h, List.getElem?_eq_getElem h]
    simp [List.getD_eq_getElem?_getD, List.getElem?_eq_getElem h]
  · rw [List.getElem?_eq_none (by omega), List.getElem?_eq_none (by simp; omega)]
    rfl
theorem mapM_map {f : D → Sto → Option (List D × Sto)} {st : Sto} {e : α → D} {g : α → List D} : ∀ {l : List α}, (∀ a ∈ l, f (e a) st = some (g a, st)) → mapM f (l.map e) st = some ((l.map g).flatten, st)
  | [], _ => rfl
  | d :: r, h => by
    simp only [List.map_cons, mapM, h d (List.mem_cons_self ..), mapM_map (l := r) fun x hx => h x (List.mem_cons_of_mem _ hx)]
    simp
theorem flat_one {β : Type} {f : α → β} : ∀ {l : List α}, (l.map fun a => [f a]).flatten = l.map f
  | [] => rfl
  | a :: r => by simp [flat_one (l := r)]
theorem flat_if {β : Type} {p : α → Bool} {f : α → β} : ∀ {l : List α}, (l.map fun a => if p a = true then [f a] else []).flatten = (l.filter p).map f
  | [] => rfl
  | a :: r => by
    have ih := flat_if (p := p) (f := f) (l := r)
    cases h : p a <;> simp [h, ih]
/-- a comprehension with no store, over a mapped list -/
theorem wp_comp {F : FT} {own : List Nat} {tg : Tg} {ifs : CEs} {elt : CE} {ρ : Rho} {st : Sto} {e : α → D} {f : α → D} {l : List α} {Q : List D × Sto → Prop} (h : ∀ a ∈ l, wp (itemF F own tg ifs elt ρ (e a) st) fun p => p = ([f a], st)) (hq : Q (l.map f, st)) : wp (mapM (itemF F own tg ifs elt ρ) (l.map e) st) Q := by
  rw [mapM_map (g := fun a => [f a]) fun a ha => eq_of_wp (h a ha), flat_one]
  exact wp_some.mpr hq
theorem wM_nil {g : D → Sto → Option (List D × Sto)} {st : Sto} {Q : List D × Sto → Prop} : wp (mapM g [] st) Q ↔ Q ([], st) := by simp only [mapM, wp_some]
theorem wM_cons {g : D → Sto → Option (List D × Sto)} {st : Sto} {x : D} {r : List D} {Q : List D × Sto → Prop} : wp (mapM g (x :: r) st) Q ↔ wp (g x st) fun p => wp (mapM g r p.2) fun q => Q (p.1 ++ q.1, q.2) := by
  simp only [mapM]
  cases g x st with
  | none => simp
  | some p =>
    obtain ⟨ys, st1⟩ := p
    simp only [wp_some]
    cases mapM g r st1 with
    | none => simp
    | some q => obtain ⟨zs, st2⟩ := q; simp
theorem wp_comp2 {g : D → Sto → Option (List D × Sto)} {st : Sto} {e : α → D} {f : α → List D} {l : List α} {Q : List D × Sto → Prop} (h : ∀ a ∈ l, wp (g (e a) st) fun p => p = (f a, st)) (hq : Q ((l.map f).flatten, st)) : wp (mapM g (l.map e) st) Q := by
  rw [mapM_map (g := f) fun a ha => eq_of_wp (h a ha)]
  exact wp_some.mpr hq
theorem wp_compIf {F : FT} {own : List Nat} {tg : Tg} {ifs : CEs} {elt : CE} {ρ : Rho} {st : Sto} {e : α → D} {p : α → Bool} {f : α → D} {l : List α} {Q : List D × Sto → Prop} (h : ∀ a ∈ l, wp (itemF F own tg ifs elt ρ (e a) st) fun q => q = (if p a = true then [f a] else [], st)) (hq : Q ((l.filter p).map f, st)) : wp (mapM (itemF F own tg ifs elt ρ) (l.map e) st) Q := by
  rw [mapM_map (g := fun a => if p a = true then [f a] else []) fun a ha => eq_of_wp (h a ha), flat_if]
  exact wp_some.mpr hq
end
/-! ### sizes -/
section
variable {i j : Int} {Q : RV → Prop}
@[simp] theorem w_mul : wp (op2 .mul (.int i) (.int j)) Q ↔ big i = true ∧ big j = true ∧ Q (.v (.int (i * j))) := by
  show wp (if (big i && big j) = true then some (RV.v (.int (i * j))) else none) Q ↔ _
  rw [wp_if, Bool.and_eq_true, and_assoc]
@[simp] theorem w_div : wp (op2 .fdiv (.int i) (.int j)) Q ↔ 0 < j ∧ big j = true ∧ Q (.v (.int (i / j))) := by
  show wp (if (decide (0 < j) && big j) = true then some (RV.v (.int (i / j))) else none) Q ↔ _
  rw [wp_if, Bool.and_eq_true, decide_eq_true_eq, and_assoc]
@[simp] theorem w_mod : wp (op2 .mod (.int i) (.int j)) Q ↔ 0 < j ∧ Q (.v (.int (i % j))) := by
  show wp (if decide (0 < j) = true then some (RV.v (.int (i % j))) else none) Q ↔ _
  rw [wp_if, decide_eq_true_eq]
/-- small enough for a power -/
def pw (i : Int) : Bool := decide (i.natAbs < 2 ^ 1000)
@[simp] theorem pw_10 : pw 10 = true := by decide +kernel
@[simp] theorem pw_2 : pw 2 = true := by decide +kernel
@[simp] theorem pw_1060 : pw 1000000000000000000000000000000000000000000000000000000000000 = true := by decide +kernel
@[simp] theorem w_pow : wp (op2 .pow (.int i) (.int j)) Q ↔ 0 ≤ j ∧ j ≤ 1000 ∧ pw i = true ∧ Q (.v (.int (i ^ j.toNat))) := by
  show wp (if (decide (0 ≤ j) && decide (j ≤ 1000) && decide (i.natAbs < 2 ^ 1000)) = true then some (RV.v (.int (i ^ j.toNat))) else none) Q ↔ _
  rw [wp_if, Bool.and_eq_true, Bool.and_eq_true, decide_eq_true_eq, decide_eq_true_eq, and_assoc, and_assoc]
  rfl
/-- at most m figures -/
def bd (i : Int) (m : Nat) : Prop := i.natAbs < 10 ^ m
theorem bd_mono {m l : Nat} (h : bd i m) (hl : m ≤ l) : bd i l := Nat.lt_of_lt_of_le h (Nat.pow_le_pow_right (by omega) hl)
theorem bd_mul {m l : Nat} (h : bd i m) (h' : bd j l) : bd (i * j) (m + l) := by
  unfold bd at *
  rw [Int.natAbs_mul, Nat.pow_add]
  rcases Nat.eq_zero_or_pos j.natAbs with z | z
  · rw [z, Nat.mul_zero]; exact Nat.mul_pos (Nat.pow_pos (by omega)) (Nat.pow_pos (by omega))
  · exact Nat.lt_of_lt_of_le (Nat.mul_lt_mul_of_pos_right h z) (Nat.mul_le_mul_left _ (Nat.le_of_lt h'))
theorem bd_add {m l : Nat} (h : bd i m) (h' : bd j l) : bd (i + j) (max m l + 1) := by
  have h1 := bd_mono h (Nat.le_max_left m l)
  have h2 := bd_mono h' (Nat.le_max_right m l)
  unfold bd at *
  rw [Nat.pow_succ]
  generalize 10 ^ max m l = z at *
  omega
theorem bd_sub {m l : Nat} (h : bd i m) (h' : bd j l) : bd (i - j) (max m l + 1) := by
  have h1 := bd_mono h (Nat.le_max_left m l)
  have h2 := bd_mono h' (Nat.le_max_right m l)
  unfold bd at *
  rw [Nat.pow_succ]
  generalize 10 ^ max m l = z at *
  omega
theorem bd_pow {m : Nat} (h : bd i m) : ∀ n : Nat, bd (i ^ n) (m * n + 1)
  | 0 => by simp [bd]
  | n + 1 => by
    have := bd_mul (bd_pow h n) h
    rw [Int.pow_succ]
    exact bd_mono this (by rw [Nat.mul_succ]; omega)
theorem bd_of {m : Nat} (h0 : 0 ≤ i) (h : i < 10 ^ m) : bd i m := by
  unfold bd
  have e : ((10 ^ m : Nat) : Int) = 10 ^ m := by simp
  rw [← e] at h
  omega
theorem bd_mod {m : Nat} (h : 0 < j) (h' : bd j m) : bd (i % j) m := by
  unfold bd at *
  have h1 := Int.emod_nonneg i (by omega : j ≠ 0)
  have h2 := Int.emod_lt_of_pos i h
  omega
theorem big_bd {m : Nat} (h : bd i m) (hm : m ≤ 1000) : big i = true := by
  unfold big
  rw [decide_eq_true_eq]
  exact Nat.lt_trans (bd_mono h hm) (by decide +kernel)
theorem pow_bd {m : Nat} (h : bd i m) (hm : m ≤ 300) : pw i = true := decide_eq_true <| Nat.lt_of_lt_of_le (bd_mono h hm) (by decide +kernel)
end
theorem look_at {st : Sto} {n : Nat} {ds : List D} (h : st[n]? = some ds) : look st (.dict [(.none, .int (n : Int))]) = .list ds := by
  unfold look cellOf
  simp [h]
theorem setAt_3 {a b c x : D} : setAt [a, b, c] (.int 0) x = some [x, b, c] ∧ setAt [a, b, c] (.int 1) x = some [a, x, c] ∧ setAt [a, b, c] (.int 2) x = some [a, b, x] := ⟨rfl, rfl, rfl⟩
section
variable {F : FT} {ρ : Rho} {st : Sto} {Q : Fl → Prop} {W : Nat}
@[simp] theorem wS_setS {i ix e} : wp (evS F W (.setS i ix e) ρ st) Q ↔ wp (evE F e ρ st) fun p => wp (evE F ix ρ p.2) fun k => ∃ ds, ρ[i]? = some (some (.o ds)) ∧ wp (setAt ds k.1.d p.1.d) fun ds1 => Q (.nx (ρ.set i (some (.o ds1))) k.2) := by
  simp only [evS]
  cases evE F e ρ st with
  | none => simp
  | some p =>
    obtain ⟨x, st1⟩ := p
    simp only [wp_some]
    cases evE F ix ρ st1 with
    | none => simp
    | some k =>
      obtain ⟨k, st2⟩ := k
      simp only [wp_some]
      split
      · rename_i ds h
        rw [h]
        cases hs : setAt ds k.d x.d <;> simp [hs]
      · rename_i h
        simp only [wp_none, false_iff]
        rintro ⟨ds, e1, _⟩
        exact h _ e1
@[simp] theorem wS_setS2 {i i1 i2 e1 e2} : wp (evS F W (.setS2 i i1 i2 e1 e2) ρ st) Q ↔ wp (evE F e1 ρ st) fun p => wp (evE F e2 ρ p.2) fun p' => wp (evE F i1 ρ p'.2) fun k => ∃ ds, ρ[i]? = some (some (.o ds)) ∧ wp (setAt ds k.1.d p.1.d) fun ds1 =>
    wp (evE F i2 (ρ.set i (some (.o ds1))) k.2) fun k2 => wp (setAt ds1 k2.1.d p'.1.d) fun ds2 => Q (.nx (ρ.set i (some (.o ds2))) k2.2) := by
  simp only [evS]
  cases evE F e1 ρ st with
  | none => simp
  | some p =>
    obtain ⟨x, st1⟩ := p
    simp only [wp_some]
    cases evE F e2 ρ st1 with
    | none => simp
    | some p' =>
      obtain ⟨x', st2⟩ := p'
      simp only [wp_some]
      cases evE F i1 ρ st2 with
      | none => simp
      | some k =>
        obtain ⟨k, st3⟩ := k
        simp only [wp_some]
        split
        · rename_i ds h
          rw [h]
          cases hs : setAt ds k.d x.d with
          | none => simp [hs]
          | some ds1 =>
            simp only [Option.some.injEq, exists_eq_left', hs, wp_some]
            cases hk : evE F i2 (ρ.set i (some (.o ds1))) st3 with
            | none => simp [hs, hk]
            | some k2 =>
              obtain ⟨k2, st4⟩ := k2
              cases hs2 : setAt ds1 k2.d x'.d <;> simp [hs, hk, hs2]
        · rename_i h
          simp only [wp_none, false_iff]
          rintro ⟨ds, e1, _⟩
          exact h _ e1
@[simp] theorem w_loop_nil {f : D → Rho → Sto → Option Fl} : wp (loop f [] ρ st) Q ↔ Q (.nx ρ st) := by simp [loop]
/-- what is to hold behind one turn -/
def turnQ (f : D → Rho → Sto → Option Fl) (r : List D) (Q : Fl → Prop) : Fl → Prop
  | .nx ρ st => wp (loop f r ρ st) Q
  | .ct ρ st => wp (loop f r ρ st) Q
  | .bk ρ st => Q (.nx ρ st)
  | .rt v st => Q (.rt v st)
@[simp] theorem turnQ_nx {f : D → Rho → Sto → Option Fl} {r} : turnQ f r Q (.nx ρ st) ↔ wp (loop f r ρ st) Q := Iff.rfl
@[simp] theorem turnQ_ct {f : D → Rho → Sto → Option Fl} {r} : turnQ f r Q (.ct ρ st) ↔ wp (loop f r ρ st) Q := Iff.rfl
@[simp] theorem turnQ_bk {f : D → Rho → Sto → Option Fl} {r} : turnQ f r Q (.bk ρ st) ↔ Q (.nx ρ st) := Iff.rfl
@[simp] theorem turnQ_rt {f : D → Rho → Sto → Option Fl} {r v} : turnQ f r Q (.rt v st) ↔ Q (.rt v st) := Iff.rfl
@[simp] theorem w_loop_cons {f : D → Rho → Sto → Option Fl} {x : D} {r : List D} : wp (loop f (x :: r) ρ st) Q ↔ wp (f x ρ st) (turnQ f r Q) := by
  simp only [loop]
  cases f x ρ st with
  | none => simp
  | some fl => cases fl <;> simp
end
/-- a comprehension by its invariant -/
theorem wp_mapI {f : D → Sto → Option (List D × Sto)} {ds : List D} {st : Sto} {Q : List D × Sto → Prop} (I : Nat → List D → Sto → Prop) (h0 : I 0 [] st)
    (hs : ∀ i d out st, ds[i]? = some d → I i out st → wp (f d st) fun p => I (i + 1) (out ++ p.1) p.2) (hq : ∀ out st', I ds.length out st' → Q (out, st')) : wp (mapM f ds st) Q := by
  have key : ∀ (n i : Nat) (out : List D) (st : Sto), n = ds.length - i → i ≤ ds.length → I i out st → wp (mapM f (ds.drop i) st) fun p => Q (out ++ p.1, p.2) := by
    intro n
    induction n with
    | zero =>
      intro i out st hn hi h
      have : i = ds.length := by omega
      subst this
      rw [List.drop_length]
      simp only [mapM, wp_some, List.append_nil]
      exact hq out st h
    | succ n ih =>
      intro i out st hn hi h
      have hlt : i < ds.length := by omega
      obtain ⟨⟨ys, st1⟩, e, q⟩ := hs i ds[i] out st (List.getElem?_eq_getElem hlt) h
      obtain ⟨⟨zs, st2⟩, e2, q2⟩ := ih (i + 1) (out ++ ys) st1 (by omega) hlt q
      rw [List.drop_eq_getElem_cons hlt]
      simp only [mapM, e, e2, wp_some]
      simpa using q2
  have := key ds.length 0 [] st (by omega) (Nat.zero_le _) h0
  simpa using this
theorem rangeL_len {lo : Int} {n : Nat} : (rangeL lo n).length = n := by simp [rangeL]
theorem rangeL_at {lo : Int} {n i : Nat} {d : D} (h : (rangeL lo n)[i]? = some d) : i < n ∧ d = .int (lo + (i : Nat)) := by
  unfold rangeL at h
  rw [List.getElem?_map] at h
  obtain ⟨j, h1, rfl⟩ := Option.map_eq_some_iff.mp h
  obtain ⟨hl, e⟩ := List.getElem?_eq_some_iff.mp h1
  simp at hl e
  subst e
  exact ⟨hl, rfl⟩
theorem rng_down {i j : Int} (h1 : -(2 ^ 40) < i) (h2 : i < 2 ^ 40) (h3 : -(2 ^ 40) < j) (h4 : j < 2 ^ 40) (h5 : i - j ≤ 100000) : rangeOf [.int i, .int j, .int (-1)] = some (rangeStep i (-1) (i - j).toNat) := by
  have e1 : Builtin.Range.small i j (-1) = true := PySem.W.small_down (by omega) (by omega) (by omega) (by omega)
  have e2 : (Builtin.Range.rangeSize i j (-1)).toNat = (i - j).toNat := by rw [PySem.W.rangeSize_downNat]; omega
  have e3 : (i - j).toNat ≤ maxLen := by simp [maxLen]; omega
  simp only [rangeOf, e1, e2, e3]
  simp
theorem rng_1 {j : Int} (h1 : -(2 ^ 40) < j) (h2 : j ≤ 100000) : rangeOf [.int j] = some (rangeL 0 j.toNat) := by
  have h1 : small j = true := by simp [small]; omega
  have h2 : j ≤ maxLen := by simp [maxLen]; omega
  simp [rangeOf, h1, h2]
theorem rangeStep_len {lo c : Int} {n : Nat} : (rangeStep lo c n).length = n := by simp [rangeStep]
theorem rangeStep_at {lo c : Int} {n i : Nat} {d : D} (h : (rangeStep lo c n)[i]? = some d) : i < n ∧ d = .int (lo + (i : Nat) * c) := by
  unfold rangeStep at h
  rw [List.getElem?_map] at h
  obtain ⟨j, h1, rfl⟩ := Option.map_eq_some_iff.mp h
  obtain ⟨hl, e⟩ := List.getElem?_eq_some_iff.mp h1
  simp at hl e
  subst e
  exact ⟨hl, rfl⟩
end Ev

set_option maxHeartbeats 0
/-! ### the law's program as terms -/
namespace Ev.Lw
open PySem PySem.Spec PyProof.Rows L2 Ev
def b_is_integer : CSs :=
  .cons (.ret (.and (.isi .int (.var 0)) (.one (.not (.isi .bool (.var 0)))))) .nil
abbrev d_is_integer : FD := ⟨1, 1, b_is_integer⟩
def b_is_between : CSs :=
  .cons (.ret (.and (.call 455 (.cons false (.var 0) .nil)) (.one (.chain .le .le (.var 1) (.var 0) (.var 2))))) .nil
abbrev d_is_between : FD := ⟨3, 3, b_is_between⟩
def b_are_between : CSs :=
  .cons (.ret (.and (.isi .tup (.var 0)) (.one (.blt .all (.cons false (.comp [3] (.nm 3) (.seq (.var 0)) (.nil) (.call 449 (.cons false (.var 3) (.cons false (.var 1) (.cons false (.var 2) .nil))))) .nil))))) .nil
abbrev d_are_between : FD := ⟨4, 3, b_are_between⟩
def b_is_ascending : CSs :=
  .cons (.ret (.blt .all (.cons false (.comp [1, 2] (.tp (.cons (.nm 1) (.cons (.nm 2) .nil))) (.zip (.var 0) (.sl (.var 0) (.some (.con (.int 1))) .none)) (.nil) (.cmp .lt (.var 1) (.var 2))) .nil))) .nil
abbrev d_is_ascending : FD := ⟨3, 1, b_is_ascending⟩
def b_check_many : CSs :=
  .cons (.ite (.not (.call 449 (.cons false (.var 0) (.cons false (.con (.int 1)) (.cons false (.gl "MOST_TRACKS" (.int 10)) .nil))))) (.cons (.bad) .nil) (.nil)) .nil
abbrev d_check_many : FD := ⟨1, 1, b_check_many⟩
def b_is_rung : CSs :=
  .cons (.ret (.and (.call 261 (.cons false (.var 1) (.cons false (.con (.int 0)) (.cons false (.bin .sub (.var 0) (.con (.int 1))) .nil)))) (.and (.cmp .eq (.blt .len (.cons false (.var 1) .nil)) (.con (.int 2))) (.one (.cmp .lt (.sub (.var 1) (.con (.int 0))) (.sub (.var 1) (.con (.int 1)))))))) .nil
abbrev d_is_rung : FD := ⟨2, 2, b_is_rung⟩
def b_is_ladder : CSs :=
  .cons (.ite (.or (.not (.isi .tup (.var 0))) (.or (.cmp .ne (.blt .len (.cons false (.var 0) .nil)) (.con (.int 2))) (.one (.not (.call 449 (.cons false (.sub (.var 0) (.con (.int 0))) (.cons false (.con (.int 1)) (.cons false (.gl "MOST_TRACKS" (.int 10)) .nil)))))))) (.cons (.ret (.con (.bool false))) .nil) (.nil)) (.cons (.ite (.or (.not (.isi .tup (.sub (.var 0) (.con (.int 1))))) (.one (.cmp .gt (.blt .len (.cons false (.sub (.var 0) (.con (.int 1))) .nil)) (.gl "MOST_RUNGS" (.int 80))))) (.cons (.ret (.con (.bool false))) .nil) (.nil)) (.cons (.ret (.blt .all (.cons false (.comp [1] (.nm 1) (.seq (.sub (.var 0) (.con (.int 1)))) (.nil) (.call 473 (.cons false (.sub (.var 0) (.con (.int 0))) (.cons false (.var 1) .nil)))) .nil))) .nil))
abbrev d_is_ladder : FD := ⟨2, 1, b_is_ladder⟩
def b_check_ladder : CSs :=
  .cons (.ite (.not (.call 456 (.cons false (.var 0) .nil))) (.cons (.bad) .nil) (.nil)) .nil
abbrev d_check_ladder : FD := ⟨1, 1, b_check_ladder⟩
def b_check_two : CSs :=
  .cons (.expr (.call 309 (.cons false (.var 0) .nil))) (.cons (.expr (.call 309 (.cons false (.var 1) .nil))) (.cons (.ite (.cmp .ne (.sub (.var 0) (.con (.int 0))) (.sub (.var 1) (.con (.int 0)))) (.cons (.bad) .nil) (.nil)) .nil))
abbrev d_check_two : FD := ⟨2, 2, b_check_two⟩
def b_is_row_of : CSs :=
  .cons (.ret (.and (.call 261 (.cons false (.var 1) (.cons false (.bin .sub (.con (.int 0)) (.gl "MOST_NUMBER" (.int 1000000000))) (.cons false (.gl "MOST_NUMBER" (.int 1000000000)) .nil)))) (.one (.cmp .eq (.blt .len (.cons false (.var 1) .nil)) (.var 0))))) .nil
abbrev d_is_row_of : FD := ⟨2, 2, b_is_row_of⟩
def b_check_row : CSs :=
  .cons (.expr (.call 309 (.cons false (.var 0) .nil))) (.cons (.ite (.not (.call 472 (.cons false (.sub (.var 0) (.con (.int 0))) (.cons false (.var 1) .nil)))) (.cons (.bad) .nil) (.nil)) .nil)
abbrev d_check_row : FD := ⟨2, 2, b_check_row⟩
def b_are_places : CSs :=
  .cons (.ret (.and (.call 261 (.cons false (.var 1) (.cons false (.con (.int 0)) (.cons false (.bin .sub (.blt .len (.cons false (.sub (.var 0) (.con (.int 1))) .nil)) (.con (.int 1))) .nil)))) (.one (.call 448 (.cons false (.var 1) .nil))))) .nil
abbrev d_are_places : FD := ⟨2, 2, b_are_places⟩
def b_check_places : CSs :=
  .cons (.expr (.call 309 (.cons false (.var 0) .nil))) (.cons (.ite (.not (.call 267 (.cons false (.var 0) (.cons false (.var 1) .nil)))) (.cons (.bad) .nil) (.nil)) .nil)
abbrev d_check_places : FD := ⟨2, 2, b_check_places⟩
def b_is_lot_of : CSs :=
  .cons (.ret (.and (.call 261 (.cons false (.var 1) (.cons false (.con (.int 0)) (.cons false (.bin .sub (.var 0) (.con (.int 1))) .nil)))) (.and (.call 448 (.cons false (.var 1) .nil)) (.one (.cmp .ne (.var 1) (.tup (.nil))))))) .nil
abbrev d_is_lot_of : FD := ⟨2, 2, b_is_lot_of⟩
def b_check_lot : CSs :=
  .cons (.ite (.not (.call 459 (.cons false (.var 0) (.cons false (.var 1) .nil)))) (.cons (.bad) .nil) (.nil)) .nil
abbrev d_check_lot : FD := ⟨2, 2, b_check_lot⟩
def b_passed : CSs :=
  .cons (.asg (.tp (.cons (.nm 2) (.cons (.nm 3) .nil))) (.var 1)) (.cons (.ite (.cmp .le (.sub (.var 0) (.var 2)) (.sub (.var 0) (.var 3))) (.cons (.ret (.var 0)) .nil) (.nil)) (.cons (.ret (.tup (.cons true (.sl (.var 0) .none (.some (.var 2))) (.cons false (.sub (.var 0) (.var 3)) (.cons true (.sl (.var 0) (.some (.bin .add (.var 2) (.con (.int 1)))) (.some (.var 3))) (.cons false (.sub (.var 0) (.var 2)) (.cons true (.sl (.var 0) (.some (.bin .add (.var 3) (.con (.int 1)))) .none) .nil))))))) .nil))
abbrev d_passed : FD := ⟨4, 2, b_passed⟩
def b_come_out : CSs :=
  .cons (.for_ (.nm 2) (.seq (.var 0)) (.cons (.asg (.nm 1) (.call 568 (.cons false (.var 1) (.cons false (.var 2) .nil)))) .nil)) (.cons (.ret (.var 1)) .nil)
abbrev d_come_out : FD := ⟨3, 2, b_come_out⟩
def b_run : CSs :=
  .cons (.expr (.call 325 (.cons false (.var 0) (.cons false (.var 1) .nil)))) (.cons (.ret (.call 356 (.cons false (.sub (.var 0) (.con (.int 1))) (.cons false (.var 1) .nil)))) .nil)
abbrev d_run : FD := ⟨2, 2, b_run⟩
def b_less_rungs : CSs :=
  .cons (.expr (.call 322 (.cons false (.var 0) (.cons false (.var 1) .nil)))) (.cons (.ret (.tup (.cons false (.sub (.var 0) (.con (.int 0))) (.cons false (.blt .tuple (.cons false (.comp [2, 3] (.tp (.cons (.nm 2) (.cons (.nm 3) .nil))) (.enum (.sub (.var 0) (.con (.int 1)))) (.cons false (.cmp .notin (.var 2) (.var 1)) .nil) (.var 3)) .nil)) .nil)))) .nil)
abbrev d_less_rungs : FD := ⟨4, 2, b_less_rungs⟩
def b_do_touch : CSs :=
  .cons (.ret (.or (.cmp .isin (.sub (.var 0) (.con (.int 0))) (.var 1)) (.one (.cmp .isin (.sub (.var 0) (.con (.int 1))) (.var 1))))) .nil
abbrev d_do_touch : FD := ⟨2, 2, b_do_touch⟩
def b_ahead_of : CSs :=
  .cons (.asgO 2 (.lst (.cons false (.var 1) .nil))) (.cons (.for_ (.nm 3) (.rng (.cons false (.bin .sub (.var 1) (.con (.int 1))) (.cons false (.neg (.con (.int 1))) (.cons false (.neg (.con (.int 1))) .nil)))) (.cons (.ite (.blt .any (.cons false (.comp [4] (.nm 4) (.seq (.peek 2)) (.nil) (.call 376 (.cons false (.sub (.sub (.var 0) (.con (.int 1))) (.var 3)) (.cons false (.sub (.sub (.var 0) (.con (.int 1))) (.var 4)) .nil)))) .nil)) (.cons (.app 2 (.var 3)) .nil) (.nil)) .nil)) (.cons (.ret (.blt .sorted (.cons false (.sl (.peek 2) (.some (.con (.int 1))) .none) .nil))) .nil))
abbrev d_ahead_of : FD := ⟨5, 2, b_ahead_of⟩
def b_check_place_shifts : CSs :=
  .cons (.expr (.call 309 (.cons false (.var 0) .nil))) (.cons (.ite (.not (.call 449 (.cons false (.var 1) (.cons false (.con (.int 0)) (.cons false (.bin .sub (.blt .len (.cons false (.sub (.var 0) (.con (.int 1))) .nil)) (.con (.int 1))) .nil))))) (.cons (.bad) .nil) (.nil)) .nil)
abbrev d_check_place_shifts : FD := ⟨2, 2, b_check_place_shifts⟩
def b_forerunners : CSs :=
  .cons (.expr (.call 740 (.cons false (.var 0) (.cons false (.var 1) .nil)))) (.cons (.ret (.blt .tuple (.cons false (.call 251 (.cons false (.var 0) (.cons false (.var 1) .nil))) .nil))) .nil)
abbrev d_forerunners : FD := ⟨2, 2, b_forerunners⟩
def b_bits_of : CSs :=
  .cons (.asg (.nm 1) (.lst (.cons false (.tup (.nil)) .nil))) (.cons (.for_ (.nm 2) (.rng (.cons false (.var 0) .nil)) (.cons (.asg (.nm 1) (.comp2 [3, 4] (.nm 3) (.seq (.var 1)) (.nil) (.nm 4) (.seq (.tup (.cons false (.con (.int 0)) (.cons false (.con (.int 1)) .nil)))) (.nil) (.tup (.cons true (.var 3) (.cons false (.var 4) .nil))))) .nil)) (.cons (.ret (.var 1)) .nil))
abbrev d_bits_of : FD := ⟨5, 1, b_bits_of⟩
def b_is_sorted : CSs :=
  .cons (.ret (.blt .all (.cons false (.comp [1, 2] (.tp (.cons (.nm 1) (.cons (.nm 2) .nil))) (.zip (.var 0) (.sl (.var 0) (.some (.con (.int 1))) .none)) (.nil) (.cmp .le (.var 1) (.var 2))) .nil))) .nil
abbrev d_is_sorted : FD := ⟨3, 1, b_is_sorted⟩
def b_unsorted_of : CSs :=
  .cons (.ret (.comp [1] (.nm 1) (.seq (.call 291 (.cons false (.var 0) .nil))) (.cons false (.not (.call 477 (.cons false (.var 1) .nil))) .nil) (.var 1))) .nil
abbrev d_unsorted_of : FD := ⟨2, 1, b_unsorted_of⟩
def b_first_wrong_outs : CSs :=
  .cons (.for_ (.nm 1) (.seq (.call 705 (.cons false (.sub (.var 0) (.con (.int 0))) .nil))) (.cons (.ite (.not (.call 477 (.cons false (.call 356 (.cons false (.sub (.var 0) (.con (.int 1))) (.cons false (.var 1) .nil))) .nil))) (.cons (.ret (.var 1)) .nil) (.nil)) .nil)) (.cons (.ret (.con .none)) .nil)
abbrev d_first_wrong_outs : FD := ⟨2, 1, b_first_wrong_outs⟩
def b_does_sort : CSs :=
  .cons (.ret (.cmp .is (.call 748 (.cons false (.var 0) .nil)) (.con .none))) .nil
abbrev d_does_sort : FD := ⟨1, 1, b_does_sort⟩
def b_sorts_told : CSs :=
  .cons (.expr (.call 309 (.cons false (.var 0) .nil))) (.cons (.asg (.nm 1) (.call 748 (.cons false (.var 0) .nil))) (.cons (.ret (.ite (.cmp .is (.var 1) (.con .none)) (.tup (.cons false (.gl "SORTS" (.str "sorts")) .nil)) (.tup (.cons false (.gl "BITS_outs" (.str "bits")) (.cons false (.var 1) .nil))))) .nil))
abbrev d_sorts_told : FD := ⟨2, 1, b_sorts_told⟩
def b_first_unlike : CSs :=
  .cons (.for_ (.nm 2) (.seq (.call 291 (.cons false (.sub (.var 0) (.con (.int 0))) .nil))) (.cons (.ite (.cmp .ne (.call 356 (.cons false (.sub (.var 0) (.con (.int 1))) (.cons false (.var 2) .nil))) (.call 356 (.cons false (.sub (.var 1) (.con (.int 1))) (.cons false (.var 2) .nil)))) (.cons (.ret (.var 2)) .nil) (.nil)) .nil)) (.cons (.ret (.con .none)) .nil)
abbrev d_first_unlike : FD := ⟨3, 2, b_first_unlike⟩
def b_same_outs : CSs :=
  .cons (.expr (.call 344 (.cons false (.var 0) (.cons false (.var 1) .nil)))) (.cons (.asg (.nm 2) (.call 417 (.cons false (.var 0) (.cons false (.var 1) .nil)))) (.cons (.ret (.ite (.cmp .is (.var 2) (.con .none)) (.tup (.cons false (.gl "SAME" (.str "same")) .nil)) (.tup (.cons false (.gl "BITS_outs" (.str "bits")) (.cons false (.var 2) .nil))))) .nil))
abbrev d_same_outs : FD := ⟨3, 2, b_same_outs⟩
def b_check_track : CSs :=
  .cons (.ite (.not (.call 449 (.cons false (.var 1) (.cons false (.con (.int 0)) (.cons false (.bin .sub (.sub (.var 0) (.con (.int 0))) (.con (.int 1))) .nil))))) (.cons (.bad) .nil) (.nil)) .nil
abbrev d_check_track : FD := ⟨2, 2, b_check_track⟩
def b_check_number : CSs :=
  .cons (.ite (.not (.call 449 (.cons false (.var 0) (.cons false (.con (.int 0)) (.cons false (.var 1) .nil))))) (.cons (.bad) .nil) (.nil)) .nil
abbrev d_check_number : FD := ⟨2, 2, b_check_number⟩
def b_bit_at : CSs :=
  .cons (.ret (.sub (.blt .sorted (.cons false (.var 0) .nil)) (.var 1))) .nil
abbrev d_bit_at : FD := ⟨2, 2, b_bit_at⟩
def b_is_right : CSs :=
  .cons (.ret (.cmp .eq (.sub (.call 356 (.cons false (.sub (.var 0) (.con (.int 1))) (.cons false (.var 3) .nil))) (.var 1)) (.call 289 (.cons false (.var 3) (.cons false (.var 2) .nil))))) .nil
abbrev d_is_right : FD := ⟨4, 4, b_is_right⟩
def b_near_bits : CSs :=
  .cons (.ret (.comp [2] (.nm 2) (.seq (.call 291 (.cons false (.var 0) .nil))) (.cons false (.cmp .isin (.cnt (.var 2) (.con (.int 0))) (.tup (.cons false (.var 1) (.cons false (.bin .add (.var 1) (.con (.int 1))) .nil)))) .nil) (.var 2))) .nil
abbrev d_near_bits : FD := ⟨3, 2, b_near_bits⟩
def b_first_wrong_choosing : CSs :=
  .cons (.for_ (.nm 3) (.seq (.call 538 (.cons false (.sub (.var 0) (.con (.int 0))) (.cons false (.var 2) .nil)))) (.cons (.ite (.not (.call 470 (.cons false (.var 0) (.cons false (.var 1) (.cons false (.var 2) (.cons false (.var 3) .nil)))))) (.cons (.ret (.var 3)) .nil) (.nil)) .nil)) (.cons (.ret (.con .none)) .nil)
abbrev d_first_wrong_choosing : FD := ⟨4, 3, b_first_wrong_choosing⟩
def b_chosen : CSs :=
  .cons (.asg (.nm 2) (.comp [3] (.nm 3) (.rng (.cons false (.sub (.var 0) (.con (.int 0))) .nil)) (.cons false (.cmp .is (.call 747 (.cons false (.var 0) (.cons false (.var 1) (.cons false (.var 3) .nil)))) (.con .none)) .nil) (.var 3))) (.cons (.ret (.ite (.cmp .ne (.var 2) (.lst (.nil))) (.sub (.var 2) (.con (.int 0))) (.con .none))) .nil)
abbrev d_chosen : FD := ⟨4, 2, b_chosen⟩
def b_chosen_on : CSs :=
  .cons (.expr (.call 309 (.cons false (.var 0) .nil))) (.cons (.expr (.call 341 (.cons false (.var 0) (.cons false (.var 1) .nil)))) (.cons (.ret (.call 352 (.cons false (.var 0) (.cons false (.var 1) .nil)))) .nil))
abbrev d_chosen_on : FD := ⟨2, 2, b_chosen_on⟩
def b_is_mixed : CSs :=
  .cons (.asg (.nm 3) (.call 356 (.cons false (.sub (.var 0) (.con (.int 1))) (.cons false (.var 2) .nil)))) (.cons (.asg (.nm 4) (.bin .sub (.sub (.var 0) (.con (.int 0))) (.var 1))) (.cons (.ret (.and (.cmp .isin (.con (.int 1)) (.sl (.var 3) .none (.some (.var 4)))) (.one (.cmp .isin (.con (.int 0)) (.sl (.var 3) (.some (.var 4)) .none))))) .nil))
abbrev d_is_mixed : FD := ⟨5, 3, b_is_mixed⟩
def b_part_bits : CSs :=
  .cons (.ret (.comp [2] (.nm 2) (.seq (.call 291 (.cons false (.var 0) .nil))) (.cons false (.cmp .eq (.cnt (.var 2) (.con (.int 1))) (.var 1)) .nil) (.var 2))) .nil
abbrev d_part_bits : FD := ⟨3, 2, b_part_bits⟩
def b_first_mixed : CSs :=
  .cons (.for_ (.nm 2) (.seq (.call 564 (.cons false (.sub (.var 0) (.con (.int 0))) (.cons false (.var 1) .nil)))) (.cons (.ite (.call 460 (.cons false (.var 0) (.cons false (.var 1) (.cons false (.var 2) .nil)))) (.cons (.ret (.var 2)) .nil) (.nil)) .nil)) (.cons (.ret (.con .none)) .nil)
abbrev d_first_mixed : FD := ⟨3, 2, b_first_mixed⟩
def b_parts_told : CSs :=
  .cons (.expr (.call 309 (.cons false (.var 0) .nil))) (.cons (.expr (.call 318 (.cons false (.var 1) (.cons false (.sub (.var 0) (.con (.int 0))) .nil)))) (.cons (.asg (.nm 2) (.call 415 (.cons false (.var 0) (.cons false (.var 1) .nil)))) (.cons (.ret (.ite (.cmp .is (.var 2) (.con .none)) (.tup (.cons false (.gl "PARTS" (.str "parts")) .nil)) (.tup (.cons false (.gl "BITS_choosing" (.str "bits")) (.cons false (.var 2) .nil))))) .nil)))
abbrev d_parts_told : FD := ⟨3, 2, b_parts_told⟩
def b_top_ladder : CSs :=
  .cons (.expr (.call 314 (.cons false (.var 0) .nil))) (.cons (.expr (.call 318 (.cons false (.var 1) (.cons false (.var 0) .nil)))) (.cons (.asgO 2 (.lst (.nil))) (.cons (.for_ (.nm 3) (.rng (.cons false (.bin .sub (.var 0) (.con (.int 1))) (.cons false (.bin .sub (.bin .sub (.var 0) (.con (.int 1))) (.var 1)) (.cons false (.neg (.con (.int 1))) .nil)))) (.cons (.ext 2 (.comp [4] (.nm 4) (.rng (.cons false (.var 3) .nil)) (.nil) (.tup (.cons false (.var 4) (.cons false (.bin .add (.var 4) (.con (.int 1))) .nil))))) .nil)) (.cons (.ret (.tup (.cons false (.var 0) (.cons false (.blt .tuple (.cons false (.peek 2) .nil)) .nil)))) .nil))))
abbrev d_top_ladder : FD := ⟨5, 2, b_top_ladder⟩
def b_does_exchange : CSs :=
  .cons (.asg (.tp (.cons (.nm 4) (.cons (.nm 5) .nil))) (.sub (.sub (.var 0) (.con (.int 1))) (.var 1))) (.cons (.asg (.nm 3) (.call 356 (.cons false (.sl (.sub (.var 0) (.con (.int 1))) .none (.some (.var 1))) (.cons false (.var 2) .nil)))) (.cons (.ret (.cmp .gt (.sub (.var 3) (.var 4)) (.sub (.var 3) (.var 5)))) .nil))
abbrev d_does_exchange : FD := ⟨6, 3, b_does_exchange⟩
def b_first_exchange : CSs :=
  .cons (.for_ (.nm 2) (.seq (.call 291 (.cons false (.sub (.var 0) (.con (.int 0))) .nil))) (.cons (.ite (.call 377 (.cons false (.var 0) (.cons false (.var 1) (.cons false (.var 2) .nil)))) (.cons (.ret (.var 2)) .nil) (.nil)) .nil)) (.cons (.ret (.con .none)) .nil)
abbrev d_first_exchange : FD := ⟨3, 2, b_first_exchange⟩
def b_idle_of : CSs :=
  .cons (.ret (.comp [1] (.nm 1) (.rng (.cons false (.blt .len (.cons false (.sub (.var 0) (.con (.int 1))) .nil)) .nil)) (.cons false (.cmp .is (.call 413 (.cons false (.var 0) (.cons false (.var 1) .nil))) (.con .none)) .nil) (.var 1))) .nil
abbrev d_idle_of : FD := ⟨2, 1, b_idle_of⟩
def b_less : CSs :=
  .cons (.ret (.tup (.cons false (.sub (.var 0) (.con (.int 0))) (.cons false (.blt .tuple (.cons false (.comp [2, 3] (.tp (.cons (.nm 2) (.cons (.nm 3) .nil))) (.enum (.sub (.var 0) (.con (.int 1)))) (.cons false (.cmp .notin (.var 2) (.var 1)) .nil) (.var 3)) .nil)) .nil)))) .nil
abbrev d_less : FD := ⟨4, 2, b_less⟩
def b_without_idle : CSs :=
  .cons (.expr (.call 309 (.cons false (.var 0) .nil))) (.cons (.ret (.call 511 (.cons false (.var 0) (.cons false (.call 441 (.cons false (.var 0) .nil)) .nil)))) .nil)
abbrev d_without_idle : FD := ⟨1, 1, b_without_idle⟩
def b_check_sorter : CSs :=
  .cons (.expr (.call 309 (.cons false (.var 0) .nil))) (.cons (.asg (.nm 1) (.call 748 (.cons false (.var 0) .nil))) (.cons (.ite (.cmp .isnot (.var 1) (.con .none)) (.cons (.bad) .nil) (.nil)) .nil))
abbrev d_check_sorter : FD := ⟨2, 1, b_check_sorter⟩
def b_thinned : CSs :=
  .cons (.expr (.call 335 (.cons false (.var 0) .nil))) (.cons (.for_ (.nm 1) (.rng (.cons false (.bin .sub (.blt .len (.cons false (.sub (.var 0) (.con (.int 1))) .nil)) (.con (.int 1))) (.cons false (.neg (.con (.int 1))) (.cons false (.neg (.con (.int 1))) .nil)))) (.cons (.ite (.call 379 (.cons false (.call 511 (.cons false (.var 0) (.cons false (.lst (.cons false (.var 1) .nil)) .nil))) .nil)) (.cons (.asg (.nm 0) (.call 511 (.cons false (.var 0) (.cons false (.lst (.cons false (.var 1) .nil)) .nil)))) .nil) (.nil)) .nil)) (.cons (.ret (.var 0)) .nil))
abbrev d_thinned : FD := ⟨2, 1, b_thinned⟩
def b_check_place_knowing : CSs :=
  .cons (.expr (.call 309 (.cons false (.var 0) .nil))) (.cons (.ite (.not (.call 449 (.cons false (.var 1) (.cons false (.con (.int 0)) (.cons false (.blt .len (.cons false (.sub (.var 0) (.con (.int 1))) .nil)) .nil))))) (.cons (.bad) .nil) (.nil)) .nil)
abbrev d_check_place_knowing : FD := ⟨2, 2, b_check_place_knowing⟩
def b_outs_behind : CSs :=
  .cons (.ret (.comp [2] (.nm 2) (.seq (.call 291 (.cons false (.sub (.var 0) (.con (.int 0))) .nil))) (.nil) (.tup (.cons false (.var 2) (.cons false (.call 356 (.cons false (.sl (.sub (.var 0) (.con (.int 1))) .none (.some (.var 1))) (.cons false (.var 2) .nil))) .nil))))) .nil
abbrev d_outs_behind : FD := ⟨3, 2, b_outs_behind⟩
def b_pairs_of : CSs :=
  .cons (.asg (.nm 2) (.comp [6, 7] (.tp (.cons (.nm 6) (.cons (.nm 7) .nil))) (.seq (.call 560 (.cons false (.var 0) (.cons false (.var 1) .nil)))) (.nil) (.var 7))) (.cons (.asgO 3 (.lst (.nil))) (.cons (.for_ (.nm 4) (.rng (.cons false (.sub (.var 0) (.con (.int 0))) .nil)) (.cons (.for_ (.nm 5) (.rng (.cons false (.sub (.var 0) (.con (.int 0))) .nil)) (.cons (.ite (.and (.cmp .ne (.var 4) (.var 5)) (.one (.not (.blt .any (.cons false (.comp [7] (.nm 7) (.seq (.var 2)) (.nil) (.cmp .gt (.sub (.var 7) (.var 4)) (.sub (.var 7) (.var 5)))) .nil))))) (.cons (.app 3 (.tup (.cons false (.var 4) (.cons false (.var 5) .nil)))) .nil) (.nil)) .nil)) .nil)) (.cons (.retO 3) .nil)))
abbrev d_pairs_of : FD := ⟨8, 2, b_pairs_of⟩
def b_known_pairs : CSs :=
  .cons (.expr (.call 739 (.cons false (.var 0) (.cons false (.var 1) .nil)))) (.cons (.ret (.blt .tuple (.cons false (.call 563 (.cons false (.var 0) (.cons false (.var 1) .nil))) .nil))) .nil)
abbrev d_known_pairs : FD := ⟨2, 2, b_known_pairs⟩
def b_insertion_of : CSs :=
  .cons (.asgO 1 (.lst (.nil))) (.cons (.for_ (.nm 2) (.rng (.cons false (.con (.int 1)) (.cons false (.var 0) .nil))) (.cons (.ext 1 (.comp [3] (.nm 3) (.rng (.cons false (.var 2) (.cons false (.con (.int 0)) (.cons false (.neg (.con (.int 1))) .nil)))) (.nil) (.tup (.cons false (.bin .sub (.var 3) (.con (.int 1))) (.cons false (.var 3) .nil))))) .nil)) (.cons (.retO 1) .nil))
abbrev d_insertion_of : FD := ⟨4, 1, b_insertion_of⟩
def b_insertion : CSs :=
  .cons (.expr (.call 314 (.cons false (.var 0) .nil))) (.cons (.ret (.tup (.cons false (.var 0) (.cons false (.blt .tuple (.cons false (.call 445 (.cons false (.var 0) .nil)) .nil)) .nil)))) .nil)
abbrev d_insertion : FD := ⟨1, 1, b_insertion⟩
def b_bubbles : CSs :=
  .cons (.expr (.call 314 (.cons false (.var 0) .nil))) (.cons (.asgO 1 (.lst (.nil))) (.cons (.for_ (.nm 2) (.rng (.cons false (.bin .sub (.var 0) (.con (.int 1))) (.cons false (.con (.int 0)) (.cons false (.neg (.con (.int 1))) .nil)))) (.cons (.ext 1 (.comp [3] (.nm 3) (.rng (.cons false (.var 2) .nil)) (.nil) (.tup (.cons false (.var 3) (.cons false (.bin .add (.var 3) (.con (.int 1))) .nil))))) .nil)) (.cons (.ret (.tup (.cons false (.var 0) (.cons false (.blt .tuple (.cons false (.peek 1) .nil)) .nil)))) .nil)))
abbrev d_bubbles : FD := ⟨4, 1, b_bubbles⟩
def b_kept_for : CSs :=
  .cons (.par [(2, true), (3, true)] (.cons false (.lst (.nil)) (.cons false (.blt .list (.cons false (.var 1) .nil)) .nil))) (.cons (.for_ (.tp (.cons (.nm 4) (.cons (.nm 5) .nil))) (.seq (.rev (.sub (.var 0) (.con (.int 1))))) (.cons (.ite (.or (.cmp .isin (.var 4) (.peek 3)) (.one (.cmp .isin (.var 5) (.peek 3)))) (.cons (.app 2 (.tup (.cons false (.var 4) (.cons false (.var 5) .nil)))) (.cons (.ext 3 (.comp [6] (.nm 6) (.seq (.tup (.cons false (.var 4) (.cons false (.var 5) .nil)))) (.cons false (.cmp .notin (.var 6) (.peek 3)) .nil) (.var 6))) .nil)) (.nil)) .nil)) (.cons (.ret (.tup (.cons false (.blt .tuple (.cons false (.rev (.peek 2)) .nil)) (.cons false (.blt .sorted (.cons false (.peek 3) .nil)) .nil)))) .nil))
abbrev d_kept_for : FD := ⟨7, 2, b_kept_for⟩
def b_pruned : CSs :=
  .cons (.expr (.call 309 (.cons false (.var 0) .nil))) (.cons (.expr (.call 313 (.cons false (.sub (.var 0) (.con (.int 0))) (.cons false (.var 1) .nil)))) (.cons (.ret (.tup (.cons false (.sub (.var 0) (.con (.int 0))) (.cons false (.sub (.call 486 (.cons false (.var 0) (.cons false (.var 1) .nil))) (.con (.int 0))) .nil)))) .nil))
abbrev d_pruned : FD := ⟨2, 2, b_pruned⟩
def b_watched : CSs :=
  .cons (.expr (.call 309 (.cons false (.var 0) .nil))) (.cons (.expr (.call 313 (.cons false (.sub (.var 0) (.con (.int 0))) (.cons false (.var 1) .nil)))) (.cons (.ret (.blt .tuple (.cons false (.sub (.call 486 (.cons false (.var 0) (.cons false (.var 1) .nil))) (.con (.int 1))) .nil))) .nil))
abbrev d_watched : FD := ⟨2, 2, b_watched⟩
def b_u_law_pot : CSs :=
  .cons (.asg (.nm 2) (.ite (.cmp .lt (.var 1) (.blt .len (.cons false (.var 0) .nil))) (.sub (.var 0) (.var 1)) (.bin .add (.bin .add (.bin .mod (.blt .int (.cons false (.blt .sum (.cons false (.sl (.var 0) .none (.some (.con (.int 1)))) .nil)) .nil)) (.con (.int 1000003))) (.bin .mul (.con (.int 2718)) (.var 1))) (.con (.int 5960))))) (.cons (.asg (.nm 3) (.bin .mul (.bin .mod (.blt .int (.cons false (.blt .abs (.cons false (.var 2) .nil)) .nil)) (.bin .pow (.bin .pow (.con (.int 10)) (.con (.int 60))) (.con (.int 5)))) (.blt .int (.cons false (.cmp .ge (.blt .abs (.cons false (.var 2) .nil)) (.bin .pow (.con (.int 10)) (.con (.int 18)))) .nil)))) (.cons (.asg (.nm 4) (.bin .mod (.blt .int (.cons false (.var 2) .nil)) (.con (.int 2305843009213693951)))) (.cons (.ret (.lst (.cons false (.var 3) (.cons false (.bin .mod (.blt .int (.cons false (.bin .add (.bin .add (.bin .mul (.var 4) (.con (.int 85459))) (.bin .mul (.bin .mul (.con (.int 12045)) (.var 1)) (.var 1))) (.con (.int 2118))) .nil)) (.con (.int 2305843009213693921))) (.cons false (.con (.int 0)) .nil))))) .nil)))
abbrev d_u_law_pot : FD := ⟨5, 2, b_u_law_pot⟩
def b_u_law_take : CSs :=
  .cons (.ite (.cmp .gt (.sub (.var 0) (.con (.int 0))) (.con (.int 0))) (.cons (.asg (.nm 4) (.bin .mod (.blt .int (.cons false (.sub (.var 0) (.con (.int 0))) .nil)) (.var 1))) (.cons (.setC 0 (.con (.int 0)) (.bin .fdiv (.sub (.var 0) (.con (.int 0))) (.var 1))) (.cons (.ret (.var 4)) .nil))) (.nil)) (.cons (.setC 0 (.con (.int 2)) (.bin .add (.sub (.var 0) (.con (.int 2))) (.con (.int 1)))) (.cons (.asg (.nm 2) (.sub (.lst (.cons false (.con (.int 2147483647)) (.cons false (.con (.int 2147483629)) (.cons false (.con (.int 2147483587)) (.cons false (.con (.int 2147483579)) .nil))))) (.bin .mod (.blt .int (.cons false (.sub (.var 0) (.con (.int 2))) .nil)) (.con (.int 4))))) (.cons (.asg (.nm 3) (.bin .mod (.blt .int (.cons false (.bin .pow (.blt .int (.cons false (.bin .add (.bin .add (.sub (.var 0) (.con (.int 1))) (.bin .mul (.bin .mul (.con (.int 119349)) (.sub (.var 0) (.con (.int 2)))) (.sub (.var 0) (.con (.int 2))))) (.con (.int 2818))) .nil)) (.con (.int 3))) .nil)) (.var 2))) (.cons (.ret (.bin .mod (.blt .int (.cons false (.bin .fdiv (.bin .mul (.var 3) (.bin .add (.bin .mod (.blt .int (.cons false (.var 3) .nil)) (.con (.int 10007))) (.bin .mul (.con (.int 2020)) (.sub (.var 0) (.con (.int 2)))))) (.con (.int 307))) .nil)) (.var 1))) .nil))))
abbrev d_u_law_take : FD := ⟨5, 2, b_u_law_take⟩
def b_u_law_of : CSs :=
  .cons (.ret (.sub (.var 1) (.call 230 (.cons false (.var 0) (.cons false (.blt .len (.cons false (.var 1) .nil)) .nil))))) .nil
abbrev d_u_law_of : FD := ⟨2, 2, b_u_law_of⟩
def b_u_law_cells : CSs :=
  .cons (.ret (.lrng (.cons false (.blt .max2 (.cons false (.con (.int 1)) (.cons false (.blt .min2 (.cons false (.var 1) (.cons false (.blt .len (.cons false (.var 0) .nil)) .nil))) .nil))) .nil))) .nil
abbrev d_u_law_cells : FD := ⟨2, 2, b_u_law_cells⟩
def b_u_law_some : CSs :=
  .cons (.par [(4, true), (5, true)] (.cons false (.blt .list (.cons false (.var 1) .nil)) (.cons false (.lst (.nil)) .nil))) (.cons (.for_ (.nm 3) (.rng (.cons false (.var 2) .nil)) (.cons (.appPop 5 4 (.call 230 (.cons false (.var 0) (.cons false (.blt .len (.cons false (.peek 4) .nil)) .nil)))) .nil)) (.cons (.retO 5) .nil))
abbrev d_u_law_some : FD := ⟨6, 3, b_u_law_some⟩
def b_u_law_ladder : CSs :=
  .cons (.par [(4, true), (5, false)] (.cons false (.lst (.nil)) (.cons false (.call 230 (.cons false (.var 0) (.cons false (.con (.int 4)) .nil))) .nil))) (.cons (.ite (.cmp .eq (.var 5) (.con (.int 0))) (.cons (.for_ (.nm 6) (.rng (.cons false (.bin .sub (.var 1) (.con (.int 1))) (.cons false (.con (.int 0)) (.cons false (.neg (.con (.int 1))) .nil)))) (.cons (.ext 4 (.comp [8] (.nm 8) (.rng (.cons false (.var 6) .nil)) (.nil) (.tup (.cons false (.blt .int (.cons false (.var 8) .nil)) (.cons false (.blt .int (.cons false (.bin .add (.var 8) (.con (.int 1))) .nil)) .nil))))) .nil)) (.cons (.ite (.and (.cmp .eq (.call 230 (.cons false (.var 0) (.cons false (.con (.int 2)) .nil))) (.con (.int 0))) (.one (.cmp .ne (.peek 4) (.lst (.nil))))) (.cons (.popAt 4 (.call 230 (.cons false (.var 0) (.cons false (.blt .len (.cons false (.peek 4) .nil)) .nil)))) .nil) (.nil)) .nil)) (.nil)) (.cons (.for_ (.nm 3) (.rng (.cons false (.ite (.and (.cmp .gt (.var 1) (.con (.int 1))) (.one (.cmp .gt (.var 5) (.con (.int 0))))) (.call 230 (.cons false (.var 0) (.cons false (.bin .add (.var 2) (.con (.int 1))) .nil))) (.con (.int 0))) .nil)) (.cons (.asg (.nm 7) (.call 230 (.cons false (.var 0) (.cons false (.bin .sub (.var 1) (.con (.int 1))) .nil)))) (.cons (.app 4 (.tup (.cons false (.blt .int (.cons false (.var 7) .nil)) (.cons false (.blt .int (.cons false (.bin .add (.bin .add (.var 7) (.con (.int 1))) (.call 230 (.cons false (.var 0) (.cons false (.bin .sub (.bin .sub (.var 1) (.var 7)) (.con (.int 1))) .nil)))) .nil)) .nil)))) .nil))) (.cons (.ret (.tup (.cons false (.blt .int (.cons false (.var 1) .nil)) (.cons false (.blt .tuple (.cons false (.peek 4) .nil)) .nil)))) .nil)))
abbrev d_u_law_ladder : FD := ⟨9, 3, b_u_law_ladder⟩
def b_u_law_row : CSs :=
  .cons (.ret (.blt .tuple (.cons false (.comp [2] (.nm 2) (.rng (.cons false (.var 1) .nil)) (.nil) (.blt .int (.cons false (.call 193 (.cons false (.var 0) (.cons false (.lst (.cons false (.con (.int 0)) (.cons false (.con (.int 1)) (.cons false (.con (.int 2)) (.cons false (.con (.int 3)) (.cons false (.con (.int 5)) (.cons false (.neg (.con (.int 4))) (.cons false (.call 230 (.cons false (.var 0) (.cons false (.bin .pow (.con (.int 10)) (.con (.int 9))) .nil))) (.cons false (.bin .sub (.con (.int 0)) (.call 230 (.cons false (.var 0) (.cons false (.bin .pow (.con (.int 10)) (.con (.int 9))) .nil)))) .nil))))))))) .nil))) .nil))) .nil))) .nil
abbrev d_u_law_row : FD := ⟨3, 2, b_u_law_row⟩
def b_u_law_right : CSs :=
  .cons (.asg (.nm 1) (.bin .add (.con (.int 2)) (.call 230 (.cons false (.var 0) (.cons false (.con (.int 5)) .nil))))) (.cons (.asg (.nm 2) (.call 193 (.cons false (.var 0) (.cons false (.lst (.cons false (.call 444 (.cons false (.var 1) .nil)) (.cons false (.call 293 (.cons false (.var 1) .nil)) (.cons false (.call 174 (.cons false (.var 0) (.cons false (.var 1) (.cons false (.con (.int 14)) .nil)))) .nil)))) .nil)))) (.cons (.asg (.nm 3) (.blt .tuple (.cons false (.blt .sorted (.cons false (.comp [6] (.nm 6) (.seq (.call 219 (.cons false (.var 0) (.cons false (.lrng (.cons false (.var 1) .nil)) (.cons false (.bin .add (.con (.int 1)) (.call 230 (.cons false (.var 0) (.cons false (.var 1) .nil)))) .nil))))) (.nil) (.blt .int (.cons false (.var 6) .nil))) .nil)) .nil))) (.cons (.asg (.nm 4) (.call 572 (.cons false (.var 2) (.cons false (.var 3) .nil)))) (.cons (.for_ (.nm 5) (.rng (.cons false (.con (.int 6)) .nil)) (.cons (.asg (.nm 13) (.call 209 (.cons false (.var 0) (.cons false (.var 1) .nil)))) (.cons (.par [(14, false), (15, false)] (.cons false (.call 591 (.cons false (.var 2) (.cons false (.var 13) .nil))) (.cons false (.call 591 (.cons false (.var 4) (.cons false (.var 13) .nil))) .nil))) (.cons (.ite (.cmp .ne (.comp [6] (.nm 6) (.seq (.var 3)) (.nil) (.sub (.var 14) (.var 6))) (.comp [6] (.nm 6) (.seq (.var 3)) (.nil) (.sub (.var 15) (.var 6)))) (.cons (.ret (.con (.bool false))) .nil) (.nil)) .nil)))) (.cons (.for_ (.nm 6) (.seq (.var 3)) (.cons (.ite (.cmp .ne (.call 353 (.cons false (.var 2) (.cons false (.var 6) .nil))) (.call 353 (.cons false (.var 4) (.cons false (.var 6) .nil)))) (.cons (.ret (.con (.bool false))) .nil) (.nil)) .nil)) (.cons (.asg (.nm 7) (.call 170 (.cons false (.sub (.var 2) (.con (.int 1))) (.cons false (.var 3) .nil)))) (.cons (.ite (.or (.cmp .ne (.var 4) (.tup (.cons false (.var 1) (.cons false (.blt .tuple (.cons false (.comp [8] (.nm 8) (.seq (.var 7)) (.nil) (.sub (.sub (.var 2) (.con (.int 1))) (.var 8))) .nil)) .nil)))) (.one (.cmp .ne (.call 572 (.cons false (.var 4) (.cons false (.var 3) .nil))) (.var 4)))) (.cons (.ret (.con (.bool false))) .nil) (.nil)) (.cons (.for_ (.nm 8) (.seq (.var 7)) (.cons (.ite (.not (.blt .all (.cons false (.comp [14] (.nm 14) (.seq (.call 425 (.cons false (.var 2) (.cons false (.var 8) .nil)))) (.nil) (.cmp .isin (.var 14) (.var 7))) .nil))) (.cons (.ret (.con (.bool false))) .nil) (.nil)) .nil)) (.cons (.asg (.nm 9) (.comp [16] (.nm 16) (.seq (.call 489 (.cons false (.var 2) (.cons false (.blt .len (.cons false (.sub (.var 2) (.con (.int 1))) .nil)) .nil)))) (.cons false (.and (.cmp .isin (.sub (.var 16) (.con (.int 0))) (.var 3)) (.one (.cmp .isin (.sub (.var 16) (.con (.int 1))) (.var 3)))) .nil) (.var 16))) (.cons (.asg (.nm 10) (.comp [16] (.nm 16) (.seq (.call 489 (.cons false (.var 4) (.cons false (.blt .len (.cons false (.sub (.var 4) (.con (.int 1))) .nil)) .nil)))) (.cons false (.and (.cmp .isin (.sub (.var 16) (.con (.int 0))) (.var 3)) (.one (.cmp .isin (.sub (.var 16) (.con (.int 1))) (.var 3)))) .nil) (.var 16))) (.cons (.ite (.or (.cmp .ne (.var 9) (.var 10)) (.one (.not (.blt .all (.cons false (.comp [6] (.nm 6) (.seq (.var 3)) (.nil) (.cmp .isin (.var 6) (.call 712 (.cons false (.var 2) (.cons false (.var 3) .nil))))) .nil))))) (.cons (.ret (.con (.bool false))) .nil) (.nil)) (.cons (.asg (.nm 11) (.call 722 (.cons false (.var 2) .nil))) (.cons (.ite (.or (.cmp .ne (.call 599 (.cons false (.var 11) (.cons false (.var 2) .nil))) (.tup (.cons false (.con (.str "same")) .nil))) (.one (.and (.cmp .eq (.call 658 (.cons false (.var 2) .nil)) (.tup (.cons false (.con (.str "sorts")) .nil))) (.one (.cmp .gt (.blt .len (.cons false (.sub (.call 683 (.cons false (.var 2) .nil)) (.con (.int 1))) .nil)) (.blt .len (.cons false (.sub (.var 11) (.con (.int 1))) .nil))))))) (.cons (.ret (.con (.bool false))) .nil) (.nil)) (.cons (.asg (.nm 12) (.blt .int (.cons false (.call 230 (.cons false (.var 0) (.cons false (.bin .add (.var 1) (.con (.int 1))) .nil))) .nil))) (.cons (.ret (.and (.cmp .eq (.call 567 (.cons false (.call 691 (.cons false (.var 1) (.cons false (.var 12) .nil))) (.cons false (.var 12) .nil))) (.tup (.cons false (.con (.str "parts")) .nil))) (.one (.cmp .eq (.call 513 (.cons false (.var 2) (.cons false (.tup (.nil)) .nil))) (.var 2))))) .nil)))))))))))))))
abbrev d_u_law_right : FD := ⟨17, 1, b_u_law_right⟩
def b_u_law_kept : CSs :=
  .cons (.par [(3, false), (4, true)] (.cons false (.blt .list (.cons false (.var 1) .nil)) (.cons false (.lst (.nil)) .nil))) (.cons (.for_ (.nm 2) (.seq (.rev (.lrng (.cons false (.blt .len (.cons false (.var 0) .nil)) .nil)))) (.cons (.asg (.tp (.cons (.nm 5) (.cons (.nm 6) .nil))) (.sub (.var 0) (.var 2))) (.cons (.ite (.or (.cmp .isin (.var 5) (.var 3)) (.one (.cmp .isin (.var 6) (.var 3)))) (.cons (.app 4 (.blt .int (.cons false (.var 2) .nil))) (.cons (.asg (.nm 3) (.bin .add (.var 3) (.lst (.cons false (.var 5) (.cons false (.var 6) .nil))))) .nil)) (.nil)) .nil))) (.cons (.ret (.blt .sorted (.cons false (.peek 4) .nil))) .nil))
abbrev d_u_law_kept : FD := ⟨7, 2, b_u_law_kept⟩
def b_law : CSs :=
  .cons (.for_ (.nm 1) (.seq (.call 67 (.cons false (.var 0) (.cons false (.con (.int 3)) .nil)))) (.cons (.asgO 2 (.call 204 (.cons false (.var 0) (.cons false (.var 1) .nil)))) (.cons (.mkcell 2) (.cons (.ite (.not (.blt .all (.cons false (.comp [3] (.nm 3) (.rng (.cons false (.con (.int 3)) .nil)) (.nil) (.call 208 (.cons false (.var 2) .nil))) .nil))) (.cons (.ret (.con (.bool false))) .nil) (.nil)) .nil)))) (.cons (.ret (.con (.bool true))) .nil)
abbrev d_law : FD := ⟨4, 1, b_law⟩
structure H_is_integer (P : Nat → Option FD) : Prop where
  p : P 455 = some d_is_integer
structure H_is_between (P : Nat → Option FD) : Prop where
  p : P 449 = some d_is_between
  is_integer : H_is_integer P
structure H_are_between (P : Nat → Option FD) : Prop where
  p : P 261 = some d_are_between
  is_between : H_is_between P
structure H_is_ascending (P : Nat → Option FD) : Prop where
  p : P 448 = some d_is_ascending
structure H_check_many (P : Nat → Option FD) : Prop where
  p : P 314 = some d_check_many
  is_between : H_is_between P
structure H_is_rung (P : Nat → Option FD) : Prop where
  p : P 473 = some d_is_rung
  are_between : H_are_between P
structure H_is_ladder (P : Nat → Option FD) : Prop where
  p : P 456 = some d_is_ladder
  is_between : H_is_between P
  is_rung : H_is_rung P
structure H_check_ladder (P : Nat → Option FD) : Prop where
  p : P 309 = some d_check_ladder
  is_ladder : H_is_ladder P
structure H_check_two (P : Nat → Option FD) : Prop where
  p : P 344 = some d_check_two
  check_ladder : H_check_ladder P
structure H_is_row_of (P : Nat → Option FD) : Prop where
  p : P 472 = some d_is_row_of
  are_between : H_are_between P
structure H_check_row (P : Nat → Option FD) : Prop where
  p : P 325 = some d_check_row
  check_ladder : H_check_ladder P
  is_row_of : H_is_row_of P
structure H_are_places (P : Nat → Option FD) : Prop where
  p : P 267 = some d_are_places
  are_between : H_are_between P
  is_ascending : H_is_ascending P
structure H_check_places (P : Nat → Option FD) : Prop where
  p : P 322 = some d_check_places
  check_ladder : H_check_ladder P
  are_places : H_are_places P
structure H_is_lot_of (P : Nat → Option FD) : Prop where
  p : P 459 = some d_is_lot_of
  are_between : H_are_between P
  is_ascending : H_is_ascending P
structure H_check_lot (P : Nat → Option FD) : Prop where
  p : P 313 = some d_check_lot
  is_lot_of : H_is_lot_of P
structure H_passed (P : Nat → Option FD) : Prop where
  p : P 568 = some d_passed
structure H_come_out (P : Nat → Option FD) : Prop where
  p : P 356 = some d_come_out
  passed : H_passed P
structure H_run (P : Nat → Option FD) : Prop where
  p : P 591 = some d_run
  check_row : H_check_row P
  come_out : H_come_out P
structure H_less_rungs (P : Nat → Option FD) : Prop where
  p : P 513 = some d_less_rungs
  check_places : H_check_places P
structure H_do_touch (P : Nat → Option FD) : Prop where
  p : P 376 = some d_do_touch
structure H_ahead_of (P : Nat → Option FD) : Prop where
  p : P 251 = some d_ahead_of
  do_touch : H_do_touch P
structure H_check_place_shifts (P : Nat → Option FD) : Prop where
  p : P 740 = some d_check_place_shifts
  check_ladder : H_check_ladder P
  is_between : H_is_between P
structure H_forerunners (P : Nat → Option FD) : Prop where
  p : P 425 = some d_forerunners
  check_place_shifts : H_check_place_shifts P
  ahead_of : H_ahead_of P
structure H_bits_of (P : Nat → Option FD) : Prop where
  p : P 291 = some d_bits_of
structure H_is_sorted (P : Nat → Option FD) : Prop where
  p : P 477 = some d_is_sorted
structure H_unsorted_of (P : Nat → Option FD) : Prop where
  p : P 705 = some d_unsorted_of
  bits_of : H_bits_of P
  is_sorted : H_is_sorted P
structure H_first_wrong_outs (P : Nat → Option FD) : Prop where
  p : P 748 = some d_first_wrong_outs
  unsorted_of : H_unsorted_of P
  is_sorted : H_is_sorted P
  come_out : H_come_out P
structure H_does_sort (P : Nat → Option FD) : Prop where
  p : P 379 = some d_does_sort
  first_wrong_outs : H_first_wrong_outs P
structure H_sorts_told (P : Nat → Option FD) : Prop where
  p : P 658 = some d_sorts_told
  check_ladder : H_check_ladder P
  first_wrong_outs : H_first_wrong_outs P
structure H_first_unlike (P : Nat → Option FD) : Prop where
  p : P 417 = some d_first_unlike
  bits_of : H_bits_of P
  come_out : H_come_out P
structure H_same_outs (P : Nat → Option FD) : Prop where
  p : P 599 = some d_same_outs
  check_two : H_check_two P
  first_unlike : H_first_unlike P
structure H_check_track (P : Nat → Option FD) : Prop where
  p : P 341 = some d_check_track
  is_between : H_is_between P
structure H_check_number (P : Nat → Option FD) : Prop where
  p : P 318 = some d_check_number
  is_between : H_is_between P
structure H_bit_at (P : Nat → Option FD) : Prop where
  p : P 289 = some d_bit_at
structure H_is_right (P : Nat → Option FD) : Prop where
  p : P 470 = some d_is_right
  bit_at : H_bit_at P
  come_out : H_come_out P
structure H_near_bits (P : Nat → Option FD) : Prop where
  p : P 538 = some d_near_bits
  bits_of : H_bits_of P
structure H_first_wrong_choosing (P : Nat → Option FD) : Prop where
  p : P 747 = some d_first_wrong_choosing
  near_bits : H_near_bits P
  is_right : H_is_right P
structure H_chosen (P : Nat → Option FD) : Prop where
  p : P 352 = some d_chosen
  first_wrong_choosing : H_first_wrong_choosing P
structure H_chosen_on (P : Nat → Option FD) : Prop where
  p : P 353 = some d_chosen_on
  check_ladder : H_check_ladder P
  check_track : H_check_track P
  chosen : H_chosen P
structure H_is_mixed (P : Nat → Option FD) : Prop where
  p : P 460 = some d_is_mixed
  come_out : H_come_out P
structure H_part_bits (P : Nat → Option FD) : Prop where
  p : P 564 = some d_part_bits
  bits_of : H_bits_of P
structure H_first_mixed (P : Nat → Option FD) : Prop where
  p : P 415 = some d_first_mixed
  part_bits : H_part_bits P
  is_mixed : H_is_mixed P
structure H_parts_told (P : Nat → Option FD) : Prop where
  p : P 567 = some d_parts_told
  check_ladder : H_check_ladder P
  check_number : H_check_number P
  first_mixed : H_first_mixed P
structure H_top_ladder (P : Nat → Option FD) : Prop where
  p : P 691 = some d_top_ladder
  check_many : H_check_many P
  check_number : H_check_number P
structure H_does_exchange (P : Nat → Option FD) : Prop where
  p : P 377 = some d_does_exchange
  come_out : H_come_out P
structure H_first_exchange (P : Nat → Option FD) : Prop where
  p : P 413 = some d_first_exchange
  bits_of : H_bits_of P
  does_exchange : H_does_exchange P
structure H_idle_of (P : Nat → Option FD) : Prop where
  p : P 441 = some d_idle_of
  first_exchange : H_first_exchange P
structure H_less (P : Nat → Option FD) : Prop where
  p : P 511 = some d_less
structure H_without_idle (P : Nat → Option FD) : Prop where
  p : P 722 = some d_without_idle
  check_ladder : H_check_ladder P
  less : H_less P
  idle_of : H_idle_of P
structure H_check_sorter (P : Nat → Option FD) : Prop where
  p : P 335 = some d_check_sorter
  check_ladder : H_check_ladder P
  first_wrong_outs : H_first_wrong_outs P
structure H_thinned (P : Nat → Option FD) : Prop where
  p : P 683 = some d_thinned
  check_sorter : H_check_sorter P
  does_sort : H_does_sort P
  less : H_less P
structure H_check_place_knowing (P : Nat → Option FD) : Prop where
  p : P 739 = some d_check_place_knowing
  check_ladder : H_check_ladder P
  is_between : H_is_between P
structure H_outs_behind (P : Nat → Option FD) : Prop where
  p : P 560 = some d_outs_behind
  come_out : H_come_out P
  bits_of : H_bits_of P
structure H_pairs_of (P : Nat → Option FD) : Prop where
  p : P 563 = some d_pairs_of
  outs_behind : H_outs_behind P
structure H_known_pairs (P : Nat → Option FD) : Prop where
  p : P 489 = some d_known_pairs
  check_place_knowing : H_check_place_knowing P
  pairs_of : H_pairs_of P
structure H_insertion_of (P : Nat → Option FD) : Prop where
  p : P 445 = some d_insertion_of
structure H_insertion (P : Nat → Option FD) : Prop where
  p : P 444 = some d_insertion
  check_many : H_check_many P
  insertion_of : H_insertion_of P
structure H_bubbles (P : Nat → Option FD) : Prop where
  p : P 293 = some d_bubbles
  check_many : H_check_many P
structure H_kept_for (P : Nat → Option FD) : Prop where
  p : P 486 = some d_kept_for
structure H_pruned (P : Nat → Option FD) : Prop where
  p : P 572 = some d_pruned
  check_ladder : H_check_ladder P
  check_lot : H_check_lot P
  kept_for : H_kept_for P
structure H_watched (P : Nat → Option FD) : Prop where
  p : P 712 = some d_watched
  check_ladder : H_check_ladder P
  check_lot : H_check_lot P
  kept_for : H_kept_for P
structure H_u_law_pot (P : Nat → Option FD) : Prop where
  p : P 204 = some d_u_law_pot
structure H_u_law_take (P : Nat → Option FD) : Prop where
  p : P 230 = some d_u_law_take
structure H_u_law_of (P : Nat → Option FD) : Prop where
  p : P 193 = some d_u_law_of
  u_law_take : H_u_law_take P
structure H_u_law_cells (P : Nat → Option FD) : Prop where
  p : P 67 = some d_u_law_cells
structure H_u_law_some (P : Nat → Option FD) : Prop where
  p : P 219 = some d_u_law_some
  u_law_take : H_u_law_take P
structure H_u_law_ladder (P : Nat → Option FD) : Prop where
  p : P 174 = some d_u_law_ladder
  u_law_take : H_u_law_take P
structure H_u_law_row (P : Nat → Option FD) : Prop where
  p : P 209 = some d_u_law_row
  u_law_of : H_u_law_of P
  u_law_take : H_u_law_take P
structure H_u_law_kept (P : Nat → Option FD) : Prop where
  p : P 170 = some d_u_law_kept
structure H_u_law_right (P : Nat → Option FD) : Prop where
  p : P 208 = some d_u_law_right
  u_law_of : H_u_law_of P
  pruned : H_pruned P
  u_law_kept : H_u_law_kept P
  without_idle : H_without_idle P
  u_law_take : H_u_law_take P
  u_law_row : H_u_law_row P
  insertion : H_insertion P
  bubbles : H_bubbles P
  u_law_ladder : H_u_law_ladder P
  run : H_run P
  chosen_on : H_chosen_on P
  known_pairs : H_known_pairs P
  same_outs : H_same_outs P
  parts_told : H_parts_told P
  less_rungs : H_less_rungs P
  sorts_told : H_sorts_told P
  top_ladder : H_top_ladder P
  u_law_some : H_u_law_some P
  forerunners : H_forerunners P
  watched : H_watched P
  thinned : H_thinned P
def progL : List (Nat × FD) := [(455, d_is_integer), (449, d_is_between), (261, d_are_between), (448, d_is_ascending), (314, d_check_many), (473, d_is_rung), (456, d_is_ladder), (309, d_check_ladder), (344, d_check_two), (472, d_is_row_of), (325, d_check_row), (267, d_are_places), (322, d_check_places), (459, d_is_lot_of), (313, d_check_lot), (568, d_passed), (356, d_come_out), (591, d_run), (513, d_less_rungs), (376, d_do_touch), (251, d_ahead_of), (740, d_check_place_shifts), (425, d_forerunners), (291, d_bits_of), (477, d_is_sorted), (705, d_unsorted_of), (748, d_first_wrong_outs), (379, d_does_sort), (658, d_sorts_told), (417, d_first_unlike), (599, d_same_outs), (341, d_check_track), (318, d_check_number), (289, d_bit_at), (470, d_is_right), (538, d_near_bits), (747, d_first_wrong_choosing), (352, d_chosen), (353, d_chosen_on), (460, d_is_mixed), (564, d_part_bits), (415, d_first_mixed), (567, d_parts_told), (691, d_top_ladder), (377, d_does_exchange), (413, d_first_exchange), (441, d_idle_of), (511, d_less), (722, d_without_idle), (335, d_check_sorter), (683, d_thinned), (739, d_check_place_knowing), (560, d_outs_behind), (563, d_pairs_of), (489, d_known_pairs), (445, d_insertion_of), (444, d_insertion), (293, d_bubbles), (486, d_kept_for), (572, d_pruned), (712, d_watched), (204, d_u_law_pot), (230, d_u_law_take), (193, d_u_law_of), (67, d_u_law_cells), (219, d_u_law_some), (174, d_u_law_ladder), (209, d_u_law_row), (208, d_u_law_right), (170, d_u_law_kept)]
def prog : Nat → Option FD := fun f => progL.lookup f
theorem h_is_integer : H_is_integer prog := ⟨rfl⟩
theorem h_is_between : H_is_between prog := ⟨rfl, h_is_integer⟩
theorem h_are_between : H_are_between prog := ⟨rfl, h_is_between⟩
theorem h_is_ascending : H_is_ascending prog := ⟨rfl⟩
theorem h_check_many : H_check_many prog := ⟨rfl, h_is_between⟩
theorem h_is_rung : H_is_rung prog := ⟨rfl, h_are_between⟩
theorem h_is_ladder : H_is_ladder prog := ⟨rfl, h_is_between, h_is_rung⟩
theorem h_check_ladder : H_check_ladder prog := ⟨rfl, h_is_ladder⟩
theorem h_check_two : H_check_two prog := ⟨rfl, h_check_ladder⟩
theorem h_is_row_of : H_is_row_of prog := ⟨rfl, h_are_between⟩
theorem h_check_row : H_check_row prog := ⟨rfl, h_check_ladder, h_is_row_of⟩
theorem h_are_places : H_are_places prog := ⟨rfl, h_are_between, h_is_ascending⟩
theorem h_check_places : H_check_places prog := ⟨rfl, h_check_ladder, h_are_places⟩
theorem h_is_lot_of : H_is_lot_of prog := ⟨rfl, h_are_between, h_is_ascending⟩
theorem h_check_lot : H_check_lot prog := ⟨rfl, h_is_lot_of⟩
theorem h_passed : H_passed prog := ⟨rfl⟩
theorem h_come_out : H_come_out prog := ⟨rfl, h_passed⟩
theorem h_run : H_run prog := ⟨rfl, h_check_row, h_come_out⟩
theorem h_less_rungs : H_less_rungs prog := ⟨rfl, h_check_places⟩
theorem h_do_touch : H_do_touch prog := ⟨rfl⟩
theorem h_ahead_of : H_ahead_of prog := ⟨rfl, h_do_touch⟩
theorem h_check_place_shifts : H_check_place_shifts prog := ⟨rfl, h_check_ladder, h_is_between⟩
theorem h_forerunners : H_forerunners prog := ⟨rfl, h_check_place_shifts, h_ahead_of⟩
theorem h_bits_of : H_bits_of prog := ⟨rfl⟩
theorem h_is_sorted : H_is_sorted prog := ⟨rfl⟩
theorem h_unsorted_of : H_unsorted_of prog := ⟨rfl, h_bits_of, h_is_sorted⟩
theorem h_first_wrong_outs : H_first_wrong_outs prog := ⟨rfl, h_unsorted_of, h_is_sorted, h_come_out⟩
theorem h_does_sort : H_does_sort prog := ⟨rfl, h_first_wrong_outs⟩
theorem h_sorts_told : H_sorts_told prog := ⟨rfl, h_check_ladder, h_first_wrong_outs⟩
theorem h_first_unlike : H_first_unlike prog := ⟨rfl, h_bits_of, h_come_out⟩
theorem h_same_outs : H_same_outs prog := ⟨rfl, h_check_two, h_first_unlike⟩
theorem h_check_track : H_check_track prog := ⟨rfl, h_is_between⟩
theorem h_check_number : H_check_number prog := ⟨rfl, h_is_between⟩
theorem h_bit_at : H_bit_at prog := ⟨rfl⟩
theorem h_is_right : H_is_right prog := ⟨rfl, h_bit_at, h_come_out⟩
theorem h_near_bits : H_near_bits prog := ⟨rfl, h_bits_of⟩
theorem h_first_wrong_choosing : H_first_wrong_choosing prog := ⟨rfl, h_near_bits, h_is_right⟩
theorem h_chosen : H_chosen prog := ⟨rfl, h_first_wrong_choosing⟩
theorem h_chosen_on : H_chosen_on prog := ⟨rfl, h_check_ladder, h_check_track, h_chosen⟩
theorem h_is_mixed : H_is_mixed prog := ⟨rfl, h_come_out⟩
theorem h_part_bits : H_part_bits prog := ⟨rfl, h_bits_of⟩
theorem h_first_mixed : H_first_mixed prog := ⟨rfl, h_part_bits, h_is_mixed⟩
theorem h_parts_told : H_parts_told prog := ⟨rfl, h_check_ladder, h_check_number, h_first_mixed⟩
theorem h_top_ladder : H_top_ladder prog := ⟨rfl, h_check_many, h_check_number⟩
theorem h_does_exchange : H_does_exchange prog := ⟨rfl, h_come_out⟩
theorem h_first_exchange : H_first_exchange prog := ⟨rfl, h_bits_of, h_does_exchange⟩
theorem h_idle_of : H_idle_of prog := ⟨rfl, h_first_exchange⟩
theorem h_less : H_less prog := ⟨rfl⟩
theorem h_without_idle : H_without_idle prog := ⟨rfl, h_check_ladder, h_less, h_idle_of⟩
theorem h_check_sorter : H_check_sorter prog := ⟨rfl, h_check_ladder, h_first_wrong_outs⟩
theorem h_thinned : H_thinned prog := ⟨rfl, h_check_sorter, h_does_sort, h_less⟩
theorem h_check_place_knowing : H_check_place_knowing prog := ⟨rfl, h_check_ladder, h_is_between⟩
theorem h_outs_behind : H_outs_behind prog := ⟨rfl, h_come_out, h_bits_of⟩
theorem h_pairs_of : H_pairs_of prog := ⟨rfl, h_outs_behind⟩
theorem h_known_pairs : H_known_pairs prog := ⟨rfl, h_check_place_knowing, h_pairs_of⟩
theorem h_insertion_of : H_insertion_of prog := ⟨rfl⟩
theorem h_insertion : H_insertion prog := ⟨rfl, h_check_many, h_insertion_of⟩
theorem h_bubbles : H_bubbles prog := ⟨rfl, h_check_many⟩
theorem h_kept_for : H_kept_for prog := ⟨rfl⟩
theorem h_pruned : H_pruned prog := ⟨rfl, h_check_ladder, h_check_lot, h_kept_for⟩
theorem h_watched : H_watched prog := ⟨rfl, h_check_ladder, h_check_lot, h_kept_for⟩
theorem h_u_law_pot : H_u_law_pot prog := ⟨rfl⟩
theorem h_u_law_take : H_u_law_take prog := ⟨rfl⟩
theorem h_u_law_of : H_u_law_of prog := ⟨rfl, h_u_law_take⟩
theorem h_u_law_cells : H_u_law_cells prog := ⟨rfl⟩
theorem h_u_law_some : H_u_law_some prog := ⟨rfl, h_u_law_take⟩
theorem h_u_law_ladder : H_u_law_ladder prog := ⟨rfl, h_u_law_take⟩
theorem h_u_law_row : H_u_law_row prog := ⟨rfl, h_u_law_of, h_u_law_take⟩
theorem h_u_law_kept : H_u_law_kept prog := ⟨rfl⟩
theorem h_u_law_right : H_u_law_right prog := ⟨rfl, h_u_law_of, h_pruned, h_u_law_kept, h_without_idle, h_u_law_take, h_u_law_row, h_insertion, h_bubbles, h_u_law_ladder, h_run, h_chosen_on, h_known_pairs, h_same_outs, h_parts_told, h_less_rungs, h_sorts_told, h_top_ladder, h_u_law_some, h_forerunners, h_watched, h_thinned⟩
abbrev prg : Program := PySem.Challenge.pw_everyrungdown_k77_whole_pruned_chosen_an
def top (i : Nat) : Stmt := prg.main.body.getD i (.Pass ⟨0, 0, 0, 0⟩)
def dd (x : Str) (i : Nat) : He.DefD := ⟨(x, none), x, x, defArgs (top i), defBody (top i), defScope (top i), [], []⟩
def da (x y : Str) (i : Nat) : He.DefD := ⟨(x, none), y, y, defArgs (top i), defBody (top i), defScope (top i), [], []⟩
def fn : List He.DefD := [dd "is_integer" 13, dd "is_between" 14, dd "are_between" 15, dd "is_ascending" 16, dd "check_many" 21, dd "is_rung" 22, dd "is_ladder" 23, dd "check_ladder" 24, dd "check_two" 25, dd "is_row_of" 26, dd "check_row" 27, dd "are_places" 28, dd "check_places" 29, dd "is_lot_of" 30, dd "check_lot" 31, dd "passed" 32, dd "come_out" 33, dd "run" 34, dd "less_rungs" 35, dd "do_touch" 37, dd "ahead_of" 39, da "check_place_shifts" "check_place" 40, dd "forerunners" 42, dd "bits_of" 47, dd "is_sorted" 48, dd "unsorted_of" 49, da "first_wrong_outs" "first_wrong" 50, dd "does_sort" 52, dd "sorts_told" 53, dd "first_unlike" 54, dd "same_outs" 55, dd "check_track" 59, dd "check_number" 60, dd "bit_at" 61, dd "is_right" 62, dd "near_bits" 63, da "first_wrong_choosing" "first_wrong" 64, dd "chosen" 66, dd "chosen_on" 67, dd "is_mixed" 68, dd "part_bits" 69, dd "first_mixed" 70, dd "parts_told" 71, dd "top_ladder" 73, dd "does_exchange" 76, dd "first_exchange" 77, dd "idle_of" 78, dd "less" 79, dd "without_idle" 80, dd "check_sorter" 81, dd "thinned" 82, da "check_place_knowing" "check_place" 84, dd "outs_behind" 86, dd "pairs_of" 87, dd "known_pairs" 88, dd "insertion_of" 90, dd "insertion" 91, dd "bubbles" 92, dd "kept_for" 94, dd "pruned" 95, dd "watched" 96, dd "_law_pot" 98, dd "_law_take" 99, dd "_law_of" 100, dd "_law_cells" 101, dd "_law_some" 102, dd "_law_ladder" 103, dd "_law_row" 104, dd "_law_right" 105, dd "_law_kept" 106, dd "law" 107]
def fa : List He.Fa := [.free "len", .free "abs", .free "max", .free "min", .free "int", .free "str", .free "repr", .free "tuple", .free "list", .free "sorted", .free "sum", .free "all", .free "any", .free "isinstance", .free "bool", .free "range", .free "enumerate", .free "zip", .free "set", .glo "is_integer", .glo "is_between", .glo "are_between", .glo "is_ascending", .glo "check_many", .glo "is_rung", .glo "is_ladder", .glo "check_ladder", .glo "check_two", .glo "is_row_of", .glo "check_row", .glo "are_places", .glo "check_places", .glo "is_lot_of", .glo "check_lot", .glo "passed", .glo "come_out", .glo "run", .glo "less_rungs", .glo "do_touch", .glo "ahead_of", .glo "check_place_shifts", .glo "forerunners", .glo "bits_of", .glo "is_sorted", .glo "unsorted_of", .glo "first_wrong_outs", .glo "does_sort", .glo "sorts_told", .glo "first_unlike", .glo "same_outs", .glo "check_track", .glo "check_number", .glo "bit_at", .glo "is_right", .glo "near_bits", .glo "first_wrong_choosing", .glo "chosen", .glo "chosen_on", .glo "is_mixed", .glo "part_bits", .glo "first_mixed", .glo "parts_told", .glo "top_ladder", .glo "does_exchange", .glo "first_exchange", .glo "idle_of", .glo "less", .glo "without_idle", .glo "check_sorter", .glo "thinned", .glo "check_place_knowing", .glo "outs_behind", .glo "pairs_of", .glo "known_pairs", .glo "insertion_of", .glo "insertion", .glo "bubbles", .glo "kept_for", .glo "pruned", .glo "watched", .glo "_law_pot", .glo "_law_take", .glo "_law_of", .glo "_law_cells", .glo "_law_some", .glo "_law_ladder", .glo "_law_row", .glo "_law_right", .glo "_law_kept", .glo "law", .int "MOST_TRACKS" (10), .int "MOST_RUNGS" (80), .int "MOST_NUMBER" (1000000000), .str "SORTS" "sorts", .str "BITS_outs" "bits", .str "SAME" "same", .str "PARTS" "parts", .str "BITS_choosing" "bits"]
def G : Ga := ⟨[], [((455, "is_integer") : Nat × Str), ((449, "is_between") : Nat × Str), ((261, "are_between") : Nat × Str), ((448, "is_ascending") : Nat × Str), ((314, "check_many") : Nat × Str), ((473, "is_rung") : Nat × Str), ((456, "is_ladder") : Nat × Str), ((309, "check_ladder") : Nat × Str), ((344, "check_two") : Nat × Str), ((472, "is_row_of") : Nat × Str), ((325, "check_row") : Nat × Str), ((267, "are_places") : Nat × Str), ((322, "check_places") : Nat × Str), ((459, "is_lot_of") : Nat × Str), ((313, "check_lot") : Nat × Str), ((568, "passed") : Nat × Str), ((356, "come_out") : Nat × Str), ((591, "run") : Nat × Str), ((513, "less_rungs") : Nat × Str), ((376, "do_touch") : Nat × Str), ((251, "ahead_of") : Nat × Str), ((740, "check_place_shifts") : Nat × Str), ((425, "forerunners") : Nat × Str), ((291, "bits_of") : Nat × Str), ((477, "is_sorted") : Nat × Str), ((705, "unsorted_of") : Nat × Str), ((748, "first_wrong_outs") : Nat × Str), ((379, "does_sort") : Nat × Str), ((658, "sorts_told") : Nat × Str), ((417, "first_unlike") : Nat × Str), ((599, "same_outs") : Nat × Str), ((341, "check_track") : Nat × Str), ((318, "check_number") : Nat × Str), ((289, "bit_at") : Nat × Str), ((470, "is_right") : Nat × Str), ((538, "near_bits") : Nat × Str), ((747, "first_wrong_choosing") : Nat × Str), ((352, "chosen") : Nat × Str), ((353, "chosen_on") : Nat × Str), ((460, "is_mixed") : Nat × Str), ((564, "part_bits") : Nat × Str), ((415, "first_mixed") : Nat × Str), ((567, "parts_told") : Nat × Str), ((691, "top_ladder") : Nat × Str), ((377, "does_exchange") : Nat × Str), ((413, "first_exchange") : Nat × Str), ((441, "idle_of") : Nat × Str), ((511, "less") : Nat × Str), ((722, "without_idle") : Nat × Str), ((335, "check_sorter") : Nat × Str), ((683, "thinned") : Nat × Str), ((739, "check_place_knowing") : Nat × Str), ((560, "outs_behind") : Nat × Str), ((563, "pairs_of") : Nat × Str), ((489, "known_pairs") : Nat × Str), ((445, "insertion_of") : Nat × Str), ((444, "insertion") : Nat × Str), ((293, "bubbles") : Nat × Str), ((486, "kept_for") : Nat × Str), ((572, "pruned") : Nat × Str), ((712, "watched") : Nat × Str), ((204, "_law_pot") : Nat × Str), ((230, "_law_take") : Nat × Str), ((193, "_law_of") : Nat × Str), ((67, "_law_cells") : Nat × Str), ((219, "_law_some") : Nat × Str), ((174, "_law_ladder") : Nat × Str), ((209, "_law_row") : Nat × Str), ((208, "_law_right") : Nat × Str), ((170, "_law_kept") : Nat × Str)], [("MOST_TRACKS", (.int 10)), ("MOST_RUNGS", (.int 80)), ("MOST_NUMBER", (.int 1000000000)), ("SORTS", (.str "sorts")), ("BITS_outs", (.str "bits")), ("SAME", (.str "same")), ("PARTS", (.str "parts")), ("BITS_choosing", (.str "bits"))], []⟩
def tb : Tb := []
theorem e_is_integer : EntOk G prog fa fn 455 "is_integer" "is_integer" (top 13) d_is_integer ["value"] ["value"] 0 19 :=
  ⟨rfl, rfl, rfl, ⟨rfl, rfl, rfl, by decide +kernel, rfl, by decide +kernel, by decide +kernel⟩, by kernel_rfl, rfl, rfl, fun _ _ _ _ _ _ us hl => match us, hl with | [u0], _ => rfl, fun q h => by cases (show q ∈ ([] : List (Nat × List Str × List Nat)) from h)⟩
theorem e_is_between : EntOk G prog fa fn 449 "is_between" "is_between" (top 14) d_is_between ["value", "low", "high"] ["value", "low", "high"] 1 20 :=
  ⟨rfl, rfl, rfl, ⟨rfl, rfl, rfl, by decide +kernel, rfl, by decide +kernel, by decide +kernel⟩, by kernel_rfl, rfl, rfl, fun _ _ _ _ _ _ us hl => match us, hl with | [u0, u1, u2], _ => rfl, fun q h => by cases (show q ∈ ([] : List (Nat × List Str × List Nat)) from h)⟩
theorem e_are_between : EntOk G prog fa fn 261 "are_between" "are_between" (top 15) d_are_between ["value", "low", "high", "one"] ["value", "low", "high"] 2 21 :=
  ⟨rfl, rfl, rfl, ⟨rfl, rfl, rfl, by decide +kernel, rfl, by decide +kernel, by decide +kernel⟩, by kernel_rfl, rfl, rfl, fun _ _ _ _ _ _ us hl => match us, hl with | [u0, u1, u2], _ => rfl, fun q h => by cases (show q ∈ ([] : List (Nat × List Str × List Nat)) from h)⟩
theorem e_is_ascending : EntOk G prog fa fn 448 "is_ascending" "is_ascending" (top 16) d_is_ascending ["items", "one", "other"] ["items"] 3 22 :=
  ⟨rfl, rfl, rfl, ⟨rfl, rfl, rfl, by decide +kernel, rfl, by decide +kernel, by decide +kernel⟩, by kernel_rfl, rfl, rfl, fun _ _ _ _ _ _ us hl => match us, hl with | [u0], _ => rfl, fun q h => by cases (show q ∈ ([] : List (Nat × List Str × List Nat)) from h)⟩
theorem e_check_many : EntOk G prog fa fn 314 "check_many" "check_many" (top 21) d_check_many ["value"] ["value"] 4 23 :=
  ⟨rfl, rfl, rfl, ⟨rfl, rfl, rfl, by decide +kernel, rfl, by decide +kernel, by decide +kernel⟩, by kernel_rfl, rfl, rfl, fun _ _ _ _ _ _ us hl => match us, hl with | [u0], _ => rfl, fun q h => by cases (show q ∈ ([] : List (Nat × List Str × List Nat)) from h)⟩
theorem e_is_rung : EntOk G prog fa fn 473 "is_rung" "is_rung" (top 22) d_is_rung ["many", "value"] ["many", "value"] 5 24 :=
  ⟨rfl, rfl, rfl, ⟨rfl, rfl, rfl, by decide +kernel, rfl, by decide +kernel, by decide +kernel⟩, by kernel_rfl, rfl, rfl, fun _ _ _ _ _ _ us hl => match us, hl with | [u0, u1], _ => rfl, fun q h => by cases (show q ∈ ([] : List (Nat × List Str × List Nat)) from h)⟩
theorem e_is_ladder : EntOk G prog fa fn 456 "is_ladder" "is_ladder" (top 23) d_is_ladder ["value", "rung"] ["value"] 6 25 :=
  ⟨rfl, rfl, rfl, ⟨rfl, rfl, rfl, by decide +kernel, rfl, by decide +kernel, by decide +kernel⟩, by kernel_rfl, rfl, rfl, fun _ _ _ _ _ _ us hl => match us, hl with | [u0], _ => rfl, fun q h => by cases (show q ∈ ([] : List (Nat × List Str × List Nat)) from h)⟩
theorem e_check_ladder : EntOk G prog fa fn 309 "check_ladder" "check_ladder" (top 24) d_check_ladder ["value"] ["value"] 7 26 :=
  ⟨rfl, rfl, rfl, ⟨rfl, rfl, rfl, by decide +kernel, rfl, by decide +kernel, by decide +kernel⟩, by kernel_rfl, rfl, rfl, fun _ _ _ _ _ _ us hl => match us, hl with | [u0], _ => rfl, fun q h => by cases (show q ∈ ([] : List (Nat × List Str × List Nat)) from h)⟩
theorem e_check_two : EntOk G prog fa fn 344 "check_two" "check_two" (top 25) d_check_two ["one", "other"] ["one", "other"] 8 27 :=
  ⟨rfl, rfl, rfl, ⟨rfl, rfl, rfl, by decide +kernel, rfl, by decide +kernel, by decide +kernel⟩, by kernel_rfl, rfl, rfl, fun _ _ _ _ _ _ us hl => match us, hl with | [u0, u1], _ => rfl, fun q h => by cases (show q ∈ ([] : List (Nat × List Str × List Nat)) from h)⟩
theorem e_is_row_of : EntOk G prog fa fn 472 "is_row_of" "is_row_of" (top 26) d_is_row_of ["many", "value"] ["many", "value"] 9 28 :=
  ⟨rfl, rfl, rfl, ⟨rfl, rfl, rfl, by decide +kernel, rfl, by decide +kernel, by decide +kernel⟩, by kernel_rfl, rfl, rfl, fun _ _ _ _ _ _ us hl => match us, hl with | [u0, u1], _ => rfl, fun q h => by cases (show q ∈ ([] : List (Nat × List Str × List Nat)) from h)⟩
theorem e_check_row : EntOk G prog fa fn 325 "check_row" "check_row" (top 27) d_check_row ["ladder", "row"] ["ladder", "row"] 10 29 :=
  ⟨rfl, rfl, rfl, ⟨rfl, rfl, rfl, by decide +kernel, rfl, by decide +kernel, by decide +kernel⟩, by kernel_rfl, rfl, rfl, fun _ _ _ _ _ _ us hl => match us, hl with | [u0, u1], _ => rfl, fun q h => by cases (show q ∈ ([] : List (Nat × List Str × List Nat)) from h)⟩
theorem e_are_places : EntOk G prog fa fn 267 "are_places" "are_places" (top 28) d_are_places ["ladder", "value"] ["ladder", "value"] 11 30 :=
  ⟨rfl, rfl, rfl, ⟨rfl, rfl, rfl, by decide +kernel, rfl, by decide +kernel, by decide +kernel⟩, by kernel_rfl, rfl, rfl, fun _ _ _ _ _ _ us hl => match us, hl with | [u0, u1], _ => rfl, fun q h => by cases (show q ∈ ([] : List (Nat × List Str × List Nat)) from h)⟩
theorem e_check_places : EntOk G prog fa fn 322 "check_places" "check_places" (top 29) d_check_places ["ladder", "places"] ["ladder", "places"] 12 31 :=
  ⟨rfl, rfl, rfl, ⟨rfl, rfl, rfl, by decide +kernel, rfl, by decide +kernel, by decide +kernel⟩, by kernel_rfl, rfl, rfl, fun _ _ _ _ _ _ us hl => match us, hl with | [u0, u1], _ => rfl, fun q h => by cases (show q ∈ ([] : List (Nat × List Str × List Nat)) from h)⟩
theorem e_is_lot_of : EntOk G prog fa fn 459 "is_lot_of" "is_lot_of" (top 30) d_is_lot_of ["many", "value"] ["many", "value"] 13 32 :=
  ⟨rfl, rfl, rfl, ⟨rfl, rfl, rfl, by decide +kernel, rfl, by decide +kernel, by decide +kernel⟩, by kernel_rfl, rfl, rfl, fun _ _ _ _ _ _ us hl => match us, hl with | [u0, u1], _ => rfl, fun q h => by cases (show q ∈ ([] : List (Nat × List Str × List Nat)) from h)⟩
theorem e_check_lot : EntOk G prog fa fn 313 "check_lot" "check_lot" (top 31) d_check_lot ["many", "lot"] ["many", "lot"] 14 33 :=
  ⟨rfl, rfl, rfl, ⟨rfl, rfl, rfl, by decide +kernel, rfl, by decide +kernel, by decide +kernel⟩, by kernel_rfl, rfl, rfl, fun _ _ _ _ _ _ us hl => match us, hl with | [u0, u1], _ => rfl, fun q h => by cases (show q ∈ ([] : List (Nat × List Str × List Nat)) from h)⟩
theorem e_passed : EntOk G prog fa fn 568 "passed" "passed" (top 32) d_passed ["row", "rung", "one", "other"] ["row", "rung"] 15 34 :=
  ⟨rfl, rfl, rfl, ⟨rfl, rfl, rfl, by decide +kernel, rfl, by decide +kernel, by decide +kernel⟩, by kernel_rfl, rfl, rfl, fun _ _ _ _ _ _ us hl => match us, hl with | [u0, u1], _ => rfl, fun q h => by cases (show q ∈ ([] : List (Nat × List Str × List Nat)) from h)⟩
theorem e_come_out : EntOk G prog fa fn 356 "come_out" "come_out" (top 33) d_come_out ["rungs", "row", "rung"] ["rungs", "row"] 16 35 :=
  ⟨rfl, rfl, rfl, ⟨rfl, rfl, rfl, by decide +kernel, rfl, by decide +kernel, by decide +kernel⟩, by kernel_rfl, rfl, rfl, fun _ _ _ _ _ _ us hl => match us, hl with | [u0, u1], _ => rfl, fun q h => by cases (show q ∈ ([] : List (Nat × List Str × List Nat)) from h)⟩
theorem e_run : EntOk G prog fa fn 591 "run" "run" (top 34) d_run ["ladder", "row"] ["ladder", "row"] 17 36 :=
  ⟨rfl, rfl, rfl, ⟨rfl, rfl, rfl, by decide +kernel, rfl, by decide +kernel, by decide +kernel⟩, by kernel_rfl, rfl, rfl, fun _ _ _ _ _ _ us hl => match us, hl with | [u0, u1], _ => rfl, fun q h => by cases (show q ∈ ([] : List (Nat × List Str × List Nat)) from h)⟩
theorem e_less_rungs : EntOk G prog fa fn 513 "less_rungs" "less_rungs" (top 35) d_less_rungs ["ladder", "places", "place", "rung"] ["ladder", "places"] 18 37 :=
  ⟨rfl, rfl, rfl, ⟨rfl, rfl, rfl, by decide +kernel, rfl, by decide +kernel, by decide +kernel⟩, by kernel_rfl, rfl, rfl, fun _ _ _ _ _ _ us hl => match us, hl with | [u0, u1], _ => rfl, fun q h => by cases (show q ∈ ([] : List (Nat × List Str × List Nat)) from h)⟩
theorem e_do_touch : EntOk G prog fa fn 376 "do_touch" "do_touch" (top 37) d_do_touch ["one", "other"] ["one", "other"] 19 38 :=
  ⟨rfl, rfl, rfl, ⟨rfl, rfl, rfl, by decide +kernel, rfl, by decide +kernel, by decide +kernel⟩, by kernel_rfl, rfl, rfl, fun _ _ _ _ _ _ us hl => match us, hl with | [u0, u1], _ => rfl, fun q h => by cases (show q ∈ ([] : List (Nat × List Str × List Nat)) from h)⟩
theorem e_ahead_of : EntOk G prog fa fn 251 "ahead_of" "ahead_of" (top 39) d_ahead_of ["ladder", "place", "found", "one", "other"] ["ladder", "place"] 20 39 :=
  ⟨rfl, rfl, rfl, ⟨rfl, rfl, rfl, by decide +kernel, rfl, by decide +kernel, by decide +kernel⟩, by kernel_rfl, rfl, rfl, fun _ _ _ _ _ _ us hl => match us, hl with | [u0, u1], _ => rfl, fun q h => by cases (show q ∈ ([] : List (Nat × List Str × List Nat)) from h)⟩
theorem e_check_place_shifts : EntOk G prog fa fn 740 "check_place_shifts" "check_place" (top 40) d_check_place_shifts ["ladder", "place"] ["ladder", "place"] 21 40 :=
  ⟨rfl, rfl, rfl, ⟨rfl, rfl, rfl, by decide +kernel, rfl, by decide +kernel, by decide +kernel⟩, by kernel_rfl, rfl, rfl, fun _ _ _ _ _ _ us hl => match us, hl with | [u0, u1], _ => rfl, fun q h => by cases (show q ∈ ([] : List (Nat × List Str × List Nat)) from h)⟩
theorem e_forerunners : EntOk G prog fa fn 425 "forerunners" "forerunners" (top 42) d_forerunners ["ladder", "place"] ["ladder", "place"] 22 41 :=
  ⟨rfl, rfl, rfl, ⟨rfl, rfl, rfl, by decide +kernel, rfl, by decide +kernel, by decide +kernel⟩, by kernel_rfl, rfl, rfl, fun _ _ _ _ _ _ us hl => match us, hl with | [u0, u1], _ => rfl, fun q h => by cases (show q ∈ ([] : List (Nat × List Str × List Nat)) from h)⟩
theorem e_bits_of : EntOk G prog fa fn 291 "bits_of" "bits_of" (top 47) d_bits_of ["many", "rows", "track", "row", "bit"] ["many"] 23 42 :=
  ⟨rfl, rfl, rfl, ⟨rfl, rfl, rfl, by decide +kernel, rfl, by decide +kernel, by decide +kernel⟩, by kernel_rfl, rfl, rfl, fun _ _ _ _ _ _ us hl => match us, hl with | [u0], _ => rfl, fun q h => by cases (show q ∈ ([] : List (Nat × List Str × List Nat)) from h)⟩
theorem e_is_sorted : EntOk G prog fa fn 477 "is_sorted" "is_sorted" (top 48) d_is_sorted ["row", "one", "other"] ["row"] 24 43 :=
  ⟨rfl, rfl, rfl, ⟨rfl, rfl, rfl, by decide +kernel, rfl, by decide +kernel, by decide +kernel⟩, by kernel_rfl, rfl, rfl, fun _ _ _ _ _ _ us hl => match us, hl with | [u0], _ => rfl, fun q h => by cases (show q ∈ ([] : List (Nat × List Str × List Nat)) from h)⟩
theorem e_unsorted_of : EntOk G prog fa fn 705 "unsorted_of" "unsorted_of" (top 49) d_unsorted_of ["many", "bits"] ["many"] 25 44 :=
  ⟨rfl, rfl, rfl, ⟨rfl, rfl, rfl, by decide +kernel, rfl, by decide +kernel, by decide +kernel⟩, by kernel_rfl, rfl, rfl, fun _ _ _ _ _ _ us hl => match us, hl with | [u0], _ => rfl, fun q h => by cases (show q ∈ ([] : List (Nat × List Str × List Nat)) from h)⟩
theorem e_first_wrong_outs : EntOk G prog fa fn 748 "first_wrong_outs" "first_wrong" (top 50) d_first_wrong_outs ["ladder", "bits"] ["ladder"] 26 45 :=
  ⟨rfl, rfl, rfl, ⟨rfl, rfl, rfl, by decide +kernel, rfl, by decide +kernel, by decide +kernel⟩, by kernel_rfl, rfl, rfl, fun _ _ _ _ _ _ us hl => match us, hl with | [u0], _ => rfl, fun q h => by cases (show q ∈ ([] : List (Nat × List Str × List Nat)) from h)⟩
theorem e_does_sort : EntOk G prog fa fn 379 "does_sort" "does_sort" (top 52) d_does_sort ["ladder"] ["ladder"] 27 46 :=
  ⟨rfl, rfl, rfl, ⟨rfl, rfl, rfl, by decide +kernel, rfl, by decide +kernel, by decide +kernel⟩, by kernel_rfl, rfl, rfl, fun _ _ _ _ _ _ us hl => match us, hl with | [u0], _ => rfl, fun q h => by cases (show q ∈ ([] : List (Nat × List Str × List Nat)) from h)⟩
theorem e_sorts_told : EntOk G prog fa fn 658 "sorts_told" "sorts_told" (top 53) d_sorts_told ["ladder", "bits"] ["ladder"] 28 47 :=
  ⟨rfl, rfl, rfl, ⟨rfl, rfl, rfl, by decide +kernel, rfl, by decide +kernel, by decide +kernel⟩, by kernel_rfl, rfl, rfl, fun _ _ _ _ _ _ us hl => match us, hl with | [u0], _ => rfl, fun q h => by cases (show q ∈ ([] : List (Nat × List Str × List Nat)) from h)⟩
theorem e_first_unlike : EntOk G prog fa fn 417 "first_unlike" "first_unlike" (top 54) d_first_unlike ["one", "other", "bits"] ["one", "other"] 29 48 :=
  ⟨rfl, rfl, rfl, ⟨rfl, rfl, rfl, by decide +kernel, rfl, by decide +kernel, by decide +kernel⟩, by kernel_rfl, rfl, rfl, fun _ _ _ _ _ _ us hl => match us, hl with | [u0, u1], _ => rfl, fun q h => by cases (show q ∈ ([] : List (Nat × List Str × List Nat)) from h)⟩
theorem e_same_outs : EntOk G prog fa fn 599 "same_outs" "same_outs" (top 55) d_same_outs ["one", "other", "bits"] ["one", "other"] 30 49 :=
  ⟨rfl, rfl, rfl, ⟨rfl, rfl, rfl, by decide +kernel, rfl, by decide +kernel, by decide +kernel⟩, by kernel_rfl, rfl, rfl, fun _ _ _ _ _ _ us hl => match us, hl with | [u0, u1], _ => rfl, fun q h => by cases (show q ∈ ([] : List (Nat × List Str × List Nat)) from h)⟩
theorem e_check_track : EntOk G prog fa fn 341 "check_track" "check_track" (top 59) d_check_track ["ladder", "value"] ["ladder", "value"] 31 50 :=
  ⟨rfl, rfl, rfl, ⟨rfl, rfl, rfl, by decide +kernel, rfl, by decide +kernel, by decide +kernel⟩, by kernel_rfl, rfl, rfl, fun _ _ _ _ _ _ us hl => match us, hl with | [u0, u1], _ => rfl, fun q h => by cases (show q ∈ ([] : List (Nat × List Str × List Nat)) from h)⟩
theorem e_check_number : EntOk G prog fa fn 318 "check_number" "check_number" (top 60) d_check_number ["value", "most"] ["value", "most"] 32 51 :=
  ⟨rfl, rfl, rfl, ⟨rfl, rfl, rfl, by decide +kernel, rfl, by decide +kernel, by decide +kernel⟩, by kernel_rfl, rfl, rfl, fun _ _ _ _ _ _ us hl => match us, hl with | [u0, u1], _ => rfl, fun q h => by cases (show q ∈ ([] : List (Nat × List Str × List Nat)) from h)⟩
theorem e_bit_at : EntOk G prog fa fn 289 "bit_at" "bit_at" (top 61) d_bit_at ["bits", "number"] ["bits", "number"] 33 52 :=
  ⟨rfl, rfl, rfl, ⟨rfl, rfl, rfl, by decide +kernel, rfl, by decide +kernel, by decide +kernel⟩, by kernel_rfl, rfl, rfl, fun _ _ _ _ _ _ us hl => match us, hl with | [u0, u1], _ => rfl, fun q h => by cases (show q ∈ ([] : List (Nat × List Str × List Nat)) from h)⟩
theorem e_is_right : EntOk G prog fa fn 470 "is_right" "is_right" (top 62) d_is_right ["ladder", "track", "number", "bits"] ["ladder", "track", "number", "bits"] 34 53 :=
  ⟨rfl, rfl, rfl, ⟨rfl, rfl, rfl, by decide +kernel, rfl, by decide +kernel, by decide +kernel⟩, by kernel_rfl, rfl, rfl, fun _ _ _ _ _ _ us hl => match us, hl with | [u0, u1, u2, u3], _ => rfl, fun q h => by cases (show q ∈ ([] : List (Nat × List Str × List Nat)) from h)⟩
theorem e_near_bits : EntOk G prog fa fn 538 "near_bits" "near_bits" (top 63) d_near_bits ["many", "number", "bits"] ["many", "number"] 35 54 :=
  ⟨rfl, rfl, rfl, ⟨rfl, rfl, rfl, by decide +kernel, rfl, by decide +kernel, by decide +kernel⟩, by kernel_rfl, rfl, rfl, fun _ _ _ _ _ _ us hl => match us, hl with | [u0, u1], _ => rfl, fun q h => by cases (show q ∈ ([] : List (Nat × List Str × List Nat)) from h)⟩
theorem e_first_wrong_choosing : EntOk G prog fa fn 747 "first_wrong_choosing" "first_wrong" (top 64) d_first_wrong_choosing ["ladder", "track", "number", "bits"] ["ladder", "track", "number"] 36 55 :=
  ⟨rfl, rfl, rfl, ⟨rfl, rfl, rfl, by decide +kernel, rfl, by decide +kernel, by decide +kernel⟩, by kernel_rfl, rfl, rfl, fun _ _ _ _ _ _ us hl => match us, hl with | [u0, u1, u2], _ => rfl, fun q h => by cases (show q ∈ ([] : List (Nat × List Str × List Nat)) from h)⟩
theorem e_chosen : EntOk G prog fa fn 352 "chosen" "chosen" (top 66) d_chosen ["ladder", "track", "some", "number"] ["ladder", "track"] 37 56 :=
  ⟨rfl, rfl, rfl, ⟨rfl, rfl, rfl, by decide +kernel, rfl, by decide +kernel, by decide +kernel⟩, by kernel_rfl, rfl, rfl, fun _ _ _ _ _ _ us hl => match us, hl with | [u0, u1], _ => rfl, fun q h => by cases (show q ∈ ([] : List (Nat × List Str × List Nat)) from h)⟩
theorem e_chosen_on : EntOk G prog fa fn 353 "chosen_on" "chosen_on" (top 67) d_chosen_on ["ladder", "track"] ["ladder", "track"] 38 57 :=
  ⟨rfl, rfl, rfl, ⟨rfl, rfl, rfl, by decide +kernel, rfl, by decide +kernel, by decide +kernel⟩, by kernel_rfl, rfl, rfl, fun _ _ _ _ _ _ us hl => match us, hl with | [u0, u1], _ => rfl, fun q h => by cases (show q ∈ ([] : List (Nat × List Str × List Nat)) from h)⟩
theorem e_is_mixed : EntOk G prog fa fn 460 "is_mixed" "is_mixed" (top 68) d_is_mixed ["ladder", "number", "bits", "row", "place"] ["ladder", "number", "bits"] 39 58 :=
  ⟨rfl, rfl, rfl, ⟨rfl, rfl, rfl, by decide +kernel, rfl, by decide +kernel, by decide +kernel⟩, by kernel_rfl, rfl, rfl, fun _ _ _ _ _ _ us hl => match us, hl with | [u0, u1, u2], _ => rfl, fun q h => by cases (show q ∈ ([] : List (Nat × List Str × List Nat)) from h)⟩
theorem e_part_bits : EntOk G prog fa fn 564 "part_bits" "part_bits" (top 69) d_part_bits ["many", "number", "bits"] ["many", "number"] 40 59 :=
  ⟨rfl, rfl, rfl, ⟨rfl, rfl, rfl, by decide +kernel, rfl, by decide +kernel, by decide +kernel⟩, by kernel_rfl, rfl, rfl, fun _ _ _ _ _ _ us hl => match us, hl with | [u0, u1], _ => rfl, fun q h => by cases (show q ∈ ([] : List (Nat × List Str × List Nat)) from h)⟩
theorem e_first_mixed : EntOk G prog fa fn 415 "first_mixed" "first_mixed" (top 70) d_first_mixed ["ladder", "number", "bits"] ["ladder", "number"] 41 60 :=
  ⟨rfl, rfl, rfl, ⟨rfl, rfl, rfl, by decide +kernel, rfl, by decide +kernel, by decide +kernel⟩, by kernel_rfl, rfl, rfl, fun _ _ _ _ _ _ us hl => match us, hl with | [u0, u1], _ => rfl, fun q h => by cases (show q ∈ ([] : List (Nat × List Str × List Nat)) from h)⟩
theorem e_parts_told : EntOk G prog fa fn 567 "parts_told" "parts_told" (top 71) d_parts_told ["ladder", "number", "bits"] ["ladder", "number"] 42 61 :=
  ⟨rfl, rfl, rfl, ⟨rfl, rfl, rfl, by decide +kernel, rfl, by decide +kernel, by decide +kernel⟩, by kernel_rfl, rfl, rfl, fun _ _ _ _ _ _ us hl => match us, hl with | [u0, u1], _ => rfl, fun q h => by cases (show q ∈ ([] : List (Nat × List Str × List Nat)) from h)⟩
theorem e_top_ladder : EntOk G prog fa fn 691 "top_ladder" "top_ladder" (top 73) d_top_ladder ["many", "number", "rungs", "last", "track"] ["many", "number"] 43 62 :=
  ⟨rfl, rfl, rfl, ⟨rfl, rfl, rfl, by decide +kernel, rfl, by decide +kernel, by decide +kernel⟩, by kernel_rfl, rfl, rfl, fun _ _ _ _ _ _ us hl => match us, hl with | [u0, u1], _ => rfl, fun q h => by cases (show q ∈ ([] : List (Nat × List Str × List Nat)) from h)⟩
theorem e_does_exchange : EntOk G prog fa fn 377 "does_exchange" "does_exchange" (top 76) d_does_exchange ["ladder", "place", "bits", "row", "one", "other"] ["ladder", "place", "bits"] 44 63 :=
  ⟨rfl, rfl, rfl, ⟨rfl, rfl, rfl, by decide +kernel, rfl, by decide +kernel, by decide +kernel⟩, by kernel_rfl, rfl, rfl, fun _ _ _ _ _ _ us hl => match us, hl with | [u0, u1, u2], _ => rfl, fun q h => by cases (show q ∈ ([] : List (Nat × List Str × List Nat)) from h)⟩
theorem e_first_exchange : EntOk G prog fa fn 413 "first_exchange" "first_exchange" (top 77) d_first_exchange ["ladder", "place", "bits"] ["ladder", "place"] 45 64 :=
  ⟨rfl, rfl, rfl, ⟨rfl, rfl, rfl, by decide +kernel, rfl, by decide +kernel, by decide +kernel⟩, by kernel_rfl, rfl, rfl, fun _ _ _ _ _ _ us hl => match us, hl with | [u0, u1], _ => rfl, fun q h => by cases (show q ∈ ([] : List (Nat × List Str × List Nat)) from h)⟩
theorem e_idle_of : EntOk G prog fa fn 441 "idle_of" "idle_of" (top 78) d_idle_of ["ladder", "place"] ["ladder"] 46 65 :=
  ⟨rfl, rfl, rfl, ⟨rfl, rfl, rfl, by decide +kernel, rfl, by decide +kernel, by decide +kernel⟩, by kernel_rfl, rfl, rfl, fun _ _ _ _ _ _ us hl => match us, hl with | [u0], _ => rfl, fun q h => by cases (show q ∈ ([] : List (Nat × List Str × List Nat)) from h)⟩
theorem e_less : EntOk G prog fa fn 511 "less" "less" (top 79) d_less ["ladder", "places", "place", "rung"] ["ladder", "places"] 47 66 :=
  ⟨rfl, rfl, rfl, ⟨rfl, rfl, rfl, by decide +kernel, rfl, by decide +kernel, by decide +kernel⟩, by kernel_rfl, rfl, rfl, fun _ _ _ _ _ _ us hl => match us, hl with | [u0, u1], _ => rfl, fun q h => by cases (show q ∈ ([] : List (Nat × List Str × List Nat)) from h)⟩
theorem e_without_idle : EntOk G prog fa fn 722 "without_idle" "without_idle" (top 80) d_without_idle ["ladder"] ["ladder"] 48 67 :=
  ⟨rfl, rfl, rfl, ⟨rfl, rfl, rfl, by decide +kernel, rfl, by decide +kernel, by decide +kernel⟩, by kernel_rfl, rfl, rfl, fun _ _ _ _ _ _ us hl => match us, hl with | [u0], _ => rfl, fun q h => by cases (show q ∈ ([] : List (Nat × List Str × List Nat)) from h)⟩
theorem e_check_sorter : EntOk G prog fa fn 335 "check_sorter" "check_sorter" (top 81) d_check_sorter ["ladder", "bits"] ["ladder"] 49 68 :=
  ⟨rfl, rfl, rfl, ⟨rfl, rfl, rfl, by decide +kernel, rfl, by decide +kernel, by decide +kernel⟩, by kernel_rfl, rfl, rfl, fun _ _ _ _ _ _ us hl => match us, hl with | [u0], _ => rfl, fun q h => by cases (show q ∈ ([] : List (Nat × List Str × List Nat)) from h)⟩
theorem e_thinned : EntOk G prog fa fn 683 "thinned" "thinned" (top 82) d_thinned ["ladder", "place"] ["ladder"] 50 69 :=
  ⟨rfl, rfl, rfl, ⟨rfl, rfl, rfl, by decide +kernel, rfl, by decide +kernel, by decide +kernel⟩, by kernel_rfl, rfl, rfl, fun _ _ _ _ _ _ us hl => match us, hl with | [u0], _ => rfl, fun q h => by cases (show q ∈ ([] : List (Nat × List Str × List Nat)) from h)⟩
theorem e_check_place_knowing : EntOk G prog fa fn 739 "check_place_knowing" "check_place" (top 84) d_check_place_knowing ["ladder", "place"] ["ladder", "place"] 51 70 :=
  ⟨rfl, rfl, rfl, ⟨rfl, rfl, rfl, by decide +kernel, rfl, by decide +kernel, by decide +kernel⟩, by kernel_rfl, rfl, rfl, fun _ _ _ _ _ _ us hl => match us, hl with | [u0, u1], _ => rfl, fun q h => by cases (show q ∈ ([] : List (Nat × List Str × List Nat)) from h)⟩
theorem e_outs_behind : EntOk G prog fa fn 560 "outs_behind" "outs_behind" (top 86) d_outs_behind ["ladder", "place", "bits"] ["ladder", "place"] 52 71 :=
  ⟨rfl, rfl, rfl, ⟨rfl, rfl, rfl, by decide +kernel, rfl, by decide +kernel, by decide +kernel⟩, by kernel_rfl, rfl, rfl, fun _ _ _ _ _ _ us hl => match us, hl with | [u0, u1], _ => rfl, fun q h => by cases (show q ∈ ([] : List (Nat × List Str × List Nat)) from h)⟩
theorem e_pairs_of : EntOk G prog fa fn 563 "pairs_of" "pairs_of" (top 87) d_pairs_of ["ladder", "place", "rows", "found", "one", "other", "bits", "row"] ["ladder", "place"] 53 72 :=
  ⟨rfl, rfl, rfl, ⟨rfl, rfl, rfl, by decide +kernel, rfl, by decide +kernel, by decide +kernel⟩, by kernel_rfl, rfl, rfl, fun _ _ _ _ _ _ us hl => match us, hl with | [u0, u1], _ => rfl, fun q h => by cases (show q ∈ ([] : List (Nat × List Str × List Nat)) from h)⟩
theorem e_known_pairs : EntOk G prog fa fn 489 "known_pairs" "known_pairs" (top 88) d_known_pairs ["ladder", "place"] ["ladder", "place"] 54 73 :=
  ⟨rfl, rfl, rfl, ⟨rfl, rfl, rfl, by decide +kernel, rfl, by decide +kernel, by decide +kernel⟩, by kernel_rfl, rfl, rfl, fun _ _ _ _ _ _ us hl => match us, hl with | [u0, u1], _ => rfl, fun q h => by cases (show q ∈ ([] : List (Nat × List Str × List Nat)) from h)⟩
theorem e_insertion_of : EntOk G prog fa fn 445 "insertion_of" "insertion_of" (top 90) d_insertion_of ["many", "found", "track", "place"] ["many"] 55 74 :=
  ⟨rfl, rfl, rfl, ⟨rfl, rfl, rfl, by decide +kernel, rfl, by decide +kernel, by decide +kernel⟩, by kernel_rfl, rfl, rfl, fun _ _ _ _ _ _ us hl => match us, hl with | [u0], _ => rfl, fun q h => by cases (show q ∈ ([] : List (Nat × List Str × List Nat)) from h)⟩
theorem e_insertion : EntOk G prog fa fn 444 "insertion" "insertion" (top 91) d_insertion ["many"] ["many"] 56 75 :=
  ⟨rfl, rfl, rfl, ⟨rfl, rfl, rfl, by decide +kernel, rfl, by decide +kernel, by decide +kernel⟩, by kernel_rfl, rfl, rfl, fun _ _ _ _ _ _ us hl => match us, hl with | [u0], _ => rfl, fun q h => by cases (show q ∈ ([] : List (Nat × List Str × List Nat)) from h)⟩
theorem e_bubbles : EntOk G prog fa fn 293 "bubbles" "bubbles" (top 92) d_bubbles ["many", "found", "last", "track"] ["many"] 57 76 :=
  ⟨rfl, rfl, rfl, ⟨rfl, rfl, rfl, by decide +kernel, rfl, by decide +kernel, by decide +kernel⟩, by kernel_rfl, rfl, rfl, fun _ _ _ _ _ _ us hl => match us, hl with | [u0], _ => rfl, fun q h => by cases (show q ∈ ([] : List (Nat × List Str × List Nat)) from h)⟩
theorem e_kept_for : EntOk G prog fa fn 486 "kept_for" "kept_for" (top 94) d_kept_for ["ladder", "lot", "found", "seen", "one", "other", "track"] ["ladder", "lot"] 58 77 :=
  ⟨rfl, rfl, rfl, ⟨rfl, rfl, rfl, by decide +kernel, rfl, by decide +kernel, by decide +kernel⟩, by kernel_rfl, rfl, rfl, fun _ _ _ _ _ _ us hl => match us, hl with | [u0, u1], _ => rfl, fun q h => by cases (show q ∈ ([] : List (Nat × List Str × List Nat)) from h)⟩
theorem e_pruned : EntOk G prog fa fn 572 "pruned" "pruned" (top 95) d_pruned ["ladder", "lot"] ["ladder", "lot"] 59 78 :=
  ⟨rfl, rfl, rfl, ⟨rfl, rfl, rfl, by decide +kernel, rfl, by decide +kernel, by decide +kernel⟩, by kernel_rfl, rfl, rfl, fun _ _ _ _ _ _ us hl => match us, hl with | [u0, u1], _ => rfl, fun q h => by cases (show q ∈ ([] : List (Nat × List Str × List Nat)) from h)⟩
theorem e_watched : EntOk G prog fa fn 712 "watched" "watched" (top 96) d_watched ["ladder", "lot"] ["ladder", "lot"] 60 79 :=
  ⟨rfl, rfl, rfl, ⟨rfl, rfl, rfl, by decide +kernel, rfl, by decide +kernel, by decide +kernel⟩, by kernel_rfl, rfl, rfl, fun _ _ _ _ _ _ us hl => match us, hl with | [u0, u1], _ => rfl, fun q h => by cases (show q ∈ ([] : List (Nat × List Str × List Nat)) from h)⟩
theorem e_u_law_pot : EntOk G prog fa fn 204 "_law_pot" "_law_pot" (top 98) d_u_law_pot ["script", "place", "cell", "own", "small"] ["script", "place"] 61 80 :=
  ⟨rfl, rfl, rfl, ⟨rfl, rfl, rfl, by decide +kernel, rfl, by decide +kernel, by decide +kernel⟩, by kernel_rfl, rfl, rfl, fun _ _ _ _ _ _ us hl => match us, hl with | [u0, u1], _ => rfl, fun q h => by cases (show q ∈ ([] : List (Nat × List Str × List Nat)) from h)⟩
theorem e_u_law_take : EntOk G prog fa fn 230 "_law_take" "_law_take" (top 99) d_u_law_take ["pot", "upto", "prime", "blend", "digit"] ["pot", "upto"] 62 81 :=
  ⟨rfl, rfl, rfl, ⟨rfl, rfl, rfl, by decide +kernel, rfl, by decide +kernel, by decide +kernel⟩, by kernel_rfl, rfl, rfl, fun _ _ _ _ _ _ us hl => match us, hl with | [u0, u1], _ => rfl, fun q h => by cases (show q ∈ ([] : List (Nat × List Str × List Nat)) from h)⟩
theorem e_u_law_of : EntOk G prog fa fn 193 "_law_of" "_law_of" (top 100) d_u_law_of ["pot", "some"] ["pot", "some"] 63 82 :=
  ⟨rfl, rfl, rfl, ⟨rfl, rfl, rfl, by decide +kernel, rfl, by decide +kernel, by decide +kernel⟩, by kernel_rfl, rfl, rfl, fun _ _ _ _ _ _ us hl => match us, hl with | [u0, u1], _ => rfl, fun q h => by cases (show q ∈ ([] : List (Nat × List Str × List Nat)) from h)⟩
theorem e_u_law_cells : EntOk G prog fa fn 67 "_law_cells" "_law_cells" (top 101) d_u_law_cells ["script", "limit"] ["script", "limit"] 64 83 :=
  ⟨rfl, rfl, rfl, ⟨rfl, rfl, rfl, by decide +kernel, rfl, by decide +kernel, by decide +kernel⟩, by kernel_rfl, rfl, rfl, fun _ _ _ _ _ _ us hl => match us, hl with | [u0, u1], _ => rfl, fun q h => by cases (show q ∈ ([] : List (Nat × List Str × List Nat)) from h)⟩
theorem e_u_law_some : EntOk G prog fa fn 219 "_law_some" "_law_some" (top 102) d_u_law_some ["pot", "pool", "many", "lap", "left", "found"] ["pot", "pool", "many"] 65 84 :=
  ⟨rfl, rfl, rfl, ⟨rfl, rfl, rfl, by decide +kernel, rfl, by decide +kernel, by decide +kernel⟩, by kernel_rfl, rfl, rfl, fun _ _ _ _ _ _ us hl => match us, hl with | [u0, u1, u2], _ => rfl, fun q h => by cases (show q ∈ ([] : List (Nat × List Str × List Nat)) from h)⟩
theorem e_u_law_ladder : EntOk G prog fa fn 174 "_law_ladder" "_law_ladder" (top 103) d_u_law_ladder ["pot", "many", "most", "lap", "rungs", "way", "last", "one", "track"] ["pot", "many", "most"] 66 85 :=
  ⟨rfl, rfl, rfl, ⟨rfl, rfl, rfl, by decide +kernel, rfl, by decide +kernel, by decide +kernel⟩, by kernel_rfl, rfl, rfl, fun _ _ _ _ _ _ us hl => match us, hl with | [u0, u1, u2], _ => rfl, fun q h => by cases (show q ∈ ([] : List (Nat × List Str × List Nat)) from h)⟩
theorem e_u_law_row : EntOk G prog fa fn 209 "_law_row" "_law_row" (top 104) d_u_law_row ["pot", "many", "track"] ["pot", "many"] 67 86 :=
  ⟨rfl, rfl, rfl, ⟨rfl, rfl, rfl, by decide +kernel, rfl, by decide +kernel, by decide +kernel⟩, by kernel_rfl, rfl, rfl, fun _ _ _ _ _ _ us hl => match us, hl with | [u0, u1], _ => rfl, fun q h => by cases (show q ∈ ([] : List (Nat × List Str × List Nat)) from h)⟩
theorem e_u_law_right : EntOk G prog fa fn 208 "_law_right" "_law_right" (top 105) d_u_law_right ["pot", "many", "ladder", "lot", "less_v", "lap", "track", "due", "place", "pairs", "later", "bare", "number", "row", "one", "other", "pair"] ["pot"] 68 87 :=
  ⟨rfl, rfl, rfl, ⟨rfl, rfl, rfl, by decide +kernel, rfl, by decide +kernel, by decide +kernel⟩, by kernel_rfl, rfl, rfl, fun _ _ _ _ _ _ us hl => match us, hl with | [u0], _ => rfl, fun q h => by cases (show q ∈ ([] : List (Nat × List Str × List Nat)) from h)⟩
theorem e_u_law_kept : EntOk G prog fa fn 170 "_law_kept" "_law_kept" (top 106) d_u_law_kept ["rungs", "lot", "place", "seen", "found", "one", "other"] ["rungs", "lot"] 69 88 :=
  ⟨rfl, rfl, rfl, ⟨rfl, rfl, rfl, by decide +kernel, rfl, by decide +kernel, by decide +kernel⟩, by kernel_rfl, rfl, rfl, fun _ _ _ _ _ _ us hl => match us, hl with | [u0, u1], _ => rfl, fun q h => by cases (show q ∈ ([] : List (Nat × List Str × List Nat)) from h)⟩
theorem allE : AllE G prog fa fn G.fn := ⟨⟨_, _, _, _, _, _, _, e_is_integer⟩, ⟨_, _, _, _, _, _, _, e_is_between⟩, ⟨_, _, _, _, _, _, _, e_are_between⟩, ⟨_, _, _, _, _, _, _, e_is_ascending⟩, ⟨_, _, _, _, _, _, _, e_check_many⟩, ⟨_, _, _, _, _, _, _, e_is_rung⟩, ⟨_, _, _, _, _, _, _, e_is_ladder⟩, ⟨_, _, _, _, _, _, _, e_check_ladder⟩, ⟨_, _, _, _, _, _, _, e_check_two⟩, ⟨_, _, _, _, _, _, _, e_is_row_of⟩, ⟨_, _, _, _, _, _, _, e_check_row⟩, ⟨_, _, _, _, _, _, _, e_are_places⟩, ⟨_, _, _, _, _, _, _, e_check_places⟩, ⟨_, _, _, _, _, _, _, e_is_lot_of⟩, ⟨_, _, _, _, _, _, _, e_check_lot⟩, ⟨_, _, _, _, _, _, _, e_passed⟩, ⟨_, _, _, _, _, _, _, e_come_out⟩, ⟨_, _, _, _, _, _, _, e_run⟩, ⟨_, _, _, _, _, _, _, e_less_rungs⟩, ⟨_, _, _, _, _, _, _, e_do_touch⟩, ⟨_, _, _, _, _, _, _, e_ahead_of⟩, ⟨_, _, _, _, _, _, _, e_check_place_shifts⟩, ⟨_, _, _, _, _, _, _, e_forerunners⟩, ⟨_, _, _, _, _, _, _, e_bits_of⟩, ⟨_, _, _, _, _, _, _, e_is_sorted⟩, ⟨_, _, _, _, _, _, _, e_unsorted_of⟩, ⟨_, _, _, _, _, _, _, e_first_wrong_outs⟩, ⟨_, _, _, _, _, _, _, e_does_sort⟩, ⟨_, _, _, _, _, _, _, e_sorts_told⟩, ⟨_, _, _, _, _, _, _, e_first_unlike⟩, ⟨_, _, _, _, _, _, _, e_same_outs⟩, ⟨_, _, _, _, _, _, _, e_check_track⟩, ⟨_, _, _, _, _, _, _, e_check_number⟩, ⟨_, _, _, _, _, _, _, e_bit_at⟩, ⟨_, _, _, _, _, _, _, e_is_right⟩, ⟨_, _, _, _, _, _, _, e_near_bits⟩, ⟨_, _, _, _, _, _, _, e_first_wrong_choosing⟩, ⟨_, _, _, _, _, _, _, e_chosen⟩, ⟨_, _, _, _, _, _, _, e_chosen_on⟩, ⟨_, _, _, _, _, _, _, e_is_mixed⟩, ⟨_, _, _, _, _, _, _, e_part_bits⟩, ⟨_, _, _, _, _, _, _, e_first_mixed⟩, ⟨_, _, _, _, _, _, _, e_parts_told⟩, ⟨_, _, _, _, _, _, _, e_top_ladder⟩, ⟨_, _, _, _, _, _, _, e_does_exchange⟩, ⟨_, _, _, _, _, _, _, e_first_exchange⟩, ⟨_, _, _, _, _, _, _, e_idle_of⟩, ⟨_, _, _, _, _, _, _, e_less⟩, ⟨_, _, _, _, _, _, _, e_without_idle⟩, ⟨_, _, _, _, _, _, _, e_check_sorter⟩, ⟨_, _, _, _, _, _, _, e_thinned⟩, ⟨_, _, _, _, _, _, _, e_check_place_knowing⟩, ⟨_, _, _, _, _, _, _, e_outs_behind⟩, ⟨_, _, _, _, _, _, _, e_pairs_of⟩, ⟨_, _, _, _, _, _, _, e_known_pairs⟩, ⟨_, _, _, _, _, _, _, e_insertion_of⟩, ⟨_, _, _, _, _, _, _, e_insertion⟩, ⟨_, _, _, _, _, _, _, e_bubbles⟩, ⟨_, _, _, _, _, _, _, e_kept_for⟩, ⟨_, _, _, _, _, _, _, e_pruned⟩, ⟨_, _, _, _, _, _, _, e_watched⟩, ⟨_, _, _, _, _, _, _, e_u_law_pot⟩, ⟨_, _, _, _, _, _, _, e_u_law_take⟩, ⟨_, _, _, _, _, _, _, e_u_law_of⟩, ⟨_, _, _, _, _, _, _, e_u_law_cells⟩, ⟨_, _, _, _, _, _, _, e_u_law_some⟩, ⟨_, _, _, _, _, _, _, e_u_law_ladder⟩, ⟨_, _, _, _, _, _, _, e_u_law_row⟩, ⟨_, _, _, _, _, _, _, e_u_law_right⟩, ⟨_, _, _, _, _, _, _, e_u_law_kept⟩, trivial⟩
theorem allC : AllC fa tb G.cn := ⟨.inl ⟨90, _, rfl, rfl⟩, .inl ⟨91, _, rfl, rfl⟩, .inl ⟨92, _, rfl, rfl⟩, .inl ⟨93, _, rfl, rfl⟩, .inl ⟨94, _, rfl, rfl⟩, .inl ⟨95, _, rfl, rfl⟩, .inl ⟨96, _, rfl, rfl⟩, .inl ⟨97, _, rfl, rfl⟩, trivial⟩
theorem allB : ∀ x ∈ bltNames, ∃ j : Nat, fa[j]? = some (.free x) := by
  intro x hx
  simp only [bltNames, List.mem_cons, List.not_mem_nil, or_false] at hx
  rcases hx with rfl | rfl | rfl | rfl | rfl | rfl | rfl | rfl | rfl | rfl | rfl | rfl | rfl | rfl | rfl | rfl | rfl | rfl | rfl
  · exact ⟨0, rfl⟩
  · exact ⟨1, rfl⟩
  · exact ⟨2, rfl⟩
  · exact ⟨3, rfl⟩
  · exact ⟨4, rfl⟩
  · exact ⟨5, rfl⟩
  · exact ⟨6, rfl⟩
  · exact ⟨7, rfl⟩
  · exact ⟨8, rfl⟩
  · exact ⟨9, rfl⟩
  · exact ⟨10, rfl⟩
  · exact ⟨11, rfl⟩
  · exact ⟨12, rfl⟩
  · exact ⟨13, rfl⟩
  · exact ⟨14, rfl⟩
  · exact ⟨15, rfl⟩
  · exact ⟨16, rfl⟩
  · exact ⟨17, rfl⟩
  · exact ⟨18, rfl⟩
def loose : List Str := (["__name__", "RungError", "BadLadder", "BadLot", "BadMany", "BadNumber", "BadPlace", "BadPlaces", "BadRow", "BadTrack", "NoSorter", "Unlike", "is_integer", "is_between", "are_between", "is_ascending", "MOST_TRACKS", "MOST_RUNGS", "MOST_NUMBER", "check_many", "is_rung", "is_ladder", "check_ladder", "check_two", "is_row_of", "check_row", "are_places", "check_places", "is_lot_of", "check_lot"] : List Str) ++ (["passed", "come_out", "run", "less_rungs", "do_touch", "ahead_of", "check_place", "check_place_shifts", "forerunners", "SORTS", "BITS_outs", "SAME", "bits_of", "is_sorted", "unsorted_of", "first_wrong", "first_wrong_outs", "does_sort", "sorts_told", "first_unlike", "same_outs", "BITS_choosing", "PARTS", "check_track", "check_number", "bit_at", "is_right", "near_bits", "first_wrong_choosing", "chosen"] : List Str) ++ (["chosen_on", "is_mixed", "part_bits", "first_mixed", "parts_told", "top_ladder", "BITS_idle", "does_exchange", "first_exchange", "idle_of", "less", "without_idle", "check_sorter", "thinned", "check_place_knowing", "outs_behind", "pairs_of", "known_pairs", "insertion_of", "insertion", "bubbles", "kept_for", "pruned", "watched", "_law_pot", "_law_take", "_law_of", "_law_cells", "_law_some", "_law_ladder"] : List Str) ++ (["_law_row", "_law_right", "_law_kept"] : List Str)
abbrev R : PySem.W.OpenRow := PySem.W.OpenLaw.row PySem.Challenge.rw_everyrungdown_k77_whole_pruned_chosen_an
abbrev hk : PySem.W.Hook := hookX 4 fa fn tb
def ob (s : PySem.W.SharedT) : Bool × He.AlD := obsX 4 fa fn tb (HandSHeadRun.getT s)
theorem ob_eq (s : PySem.W.SharedT) : ob s = hk.obs s.abs := obsX_eq (HandSHeadRun.getT_eq s)
open PySem PySem.W PySem.Calls PyProof.Rows
theorem join3 {A B C D : Type} {o : Option A} {f : A → B} {g : A → C} {h : A → D} {x : B} {y : C} {z : D} (a : o.map f = some x) (b : o.map g = some y) (c : o.map h = some z) : o.map (fun s => (f s, g s, h s)) = some (x, y, z) := by
  cases o with
  | none => cases a
  | some s =>
    have a1 : f s = x := Option.some.inj a
    have b1 : g s = y := Option.some.inj b
    have c1 : h s = z := Option.some.inj c
    subst a1; subst b1; subst c1; rfl
theorem run1 (w : World) (os : OsState) : (HandSHeadRun.endF (HandSHeadRun.stepQ (HandSHeadRun.denQ HandSHeadRun.tabQ) R.prog w) 5200 R.prog w os).map (fun s => HandSHeadRun.looksF R.prog (boot_heap w.params) s.abs) = some true := by kernel_rfl
theorem run2 (w : World) (os : OsState) : (HandSHeadRun.endF (HandSHeadRun.stepQ (HandSHeadRun.denQ HandSHeadRun.tabQ) R.prog w) 5200 R.prog w os).map (fun s => HandSHeadRun.seenQ (PySem.W.view R.prog [107]) loose (importedModules R.prog.main.body) (fun s => xlAt (PySem.W.view R.prog [107]) [] s && recOk R.toRowW.records s) s.abs) = some (openGood (PySem.W.view R.prog [107]) loose) := by kernel_rfl
theorem run3 (w : World) (os : OsState) : (HandSHeadRun.endF (HandSHeadRun.stepQ (HandSHeadRun.denQ HandSHeadRun.tabQ) R.prog w) 5200 R.prog w os).map ob = some (hk.val w) := by kernel_rfl
theorem run (w : World) : HandSHeadRun.RunEq R (PySem.W.view R.prog [107]) hk ob 5200 loose w := fun os => join3 (run1 w os) (run2 w os) (run3 w os)
def KK : Nat := 9
def WW : Nat := 1000
theorem facts {P : Program} {w : World} {K : PySem.W.Frag} {h : Heap} {mg : Str → Option Value} {f : Addr} (X : K.In h) (hn : h.Ns mainGlobals mg) (hf : mg ("law" : Str) = some (.ref f)) (c : He.SaysD fa fn K) (ct : (tb.all fun t => tupC K t.1 t.2) = true)
    (pl : ∀ ns : List Int, ns.length ≤ 63 → ∃ st', evSs (evF prog WW 9) WW b_law (initE 4 [.list (ns.map .int)]) [] = some (.rt (.v (.bool true)) st')) :
    ∃ (K : PySem.W.Frag) (fd : FuncData) (sp : Sp), K.In h ∧ (∀ (s : Shared) (u : Value), BindsTo s fd ⟨[u], []⟩ [("script", u)]) ∧
      (∀ (H : Hp) (a : Addr) (ns : List Int), ns.length ≤ 63 → SqL K H a (ns.map V.int) → sp [.ref a] H (fun v _ => v = .bl true) fun _ _ _ => False) ∧ ∀ base : Heap, K.In base → base.Ns mainGlobals mg → FnG P w K mg base (9 + 1) f fd ["script"] sp :=
  law_of (P := P) (w := w) (prog := prog) (G := G) (W := WW) (k := 9) (n := 63) (d := d_law) (st := top 107) (N := ["script", "place", "pot", "lap"]) (i := 70) (j := 89) X hn c ct allB allC allE hf rfl rfl ⟨rfl, rfl, rfl, by decide +kernel, rfl, by decide +kernel, by decide +kernel⟩ (by kernel_rfl) rfl (fun _ _ _ _ _ _ us hl => match us, hl with | [u0], _ => rfl) pl
end Ev.Lw
set_option maxHeartbeats 4000000
namespace Ev.Lw
open PySem Ev
section
/-! ### data of this program -/
section
/-- no cell -/
def nd : D → Bool
  | .dict ((.none, _) :: _) => false
  | _ => true
theorem is_dct {t : Ty} {kvs : List (D × D)} (h : nd (.dict kvs) = true) : isi t (.dict kvs) = some false := by
  cases kvs with
  | nil => cases t <;> rfl
  | cons p r =>
    obtain ⟨x, y⟩ := p
    cases x <;> first | (cases h; done) | (cases t <;> rfl)
@[simp] theorem nd_n : nd .none = true := (rfl)
@[simp] theorem nd_b {b : Bool} : nd (.bool b) = true := (rfl)
@[simp] theorem nd_i {i : Int} : nd (.int i) = true := (rfl)
@[simp] theorem nd_s {x : Str} : nd (.str x) = true := (rfl)
@[simp] theorem nd_t {xs : List D} : nd (.tuple xs) = true := (rfl)
@[simp] theorem nd_l {xs : List D} : nd (.list xs) = true := (rfl)
def isI : D → Bool
  | .int _ => true
  | _ => false
@[simp] theorem isI_n : isI .none = false := (rfl)
@[simp] theorem isI_b {b : Bool} : isI (.bool b) = false := (rfl)
@[simp] theorem isI_i {i : Int} : isI (.int i) = true := (rfl)
@[simp] theorem isI_s {x : Str} : isI (.str x) = false := (rfl)
@[simp] theorem isI_t {xs : List D} : isI (.tuple xs) = false := (rfl)
@[simp] theorem isI_d {kvs : List (D × D)} : isI (.dict kvs) = false := (rfl)
@[simp] theorem isI_l {xs : List D} : isI (.list xs) = false := (rfl)
def btw (lo hi : Int) : D → Bool
  | .int i => decide (lo ≤ i) && decide (i ≤ hi)
  | _ => false
@[simp] theorem btw_n {lo hi : Int} : btw lo hi .none = false := (rfl)
@[simp] theorem btw_b {lo hi : Int} {b : Bool} : btw lo hi (.bool b) = false := (rfl)
@[simp] theorem btw_i {lo hi i : Int} : btw lo hi (.int i) = (decide (lo ≤ i) && decide (i ≤ hi)) := (rfl)
@[simp] theorem btw_s {lo hi : Int} {x : Str} : btw lo hi (.str x) = false := (rfl)
@[simp] theorem btw_t {lo hi : Int} {xs : List D} : btw lo hi (.tuple xs) = false := (rfl)
@[simp] theorem btw_d {lo hi : Int} {kvs : List (D × D)} : btw lo hi (.dict kvs) = false := (rfl)
@[simp] theorem btw_l {lo hi : Int} {xs : List D} : btw lo hi (.list xs) = false := (rfl)
def abtw (lo hi : Int) : D → Bool
  | .tuple ds => ds.all (btw lo hi)
  | _ => false
@[simp] theorem abtw_n {lo hi : Int} : abtw lo hi .none = false := (rfl)
@[simp] theorem abtw_b {lo hi : Int} {b : Bool} : abtw lo hi (.bool b) = false := (rfl)
@[simp] theorem abtw_i {lo hi i : Int} : abtw lo hi (.int i) = false := (rfl)
@[simp] theorem abtw_s {lo hi : Int} {x : Str} : abtw lo hi (.str x) = false := (rfl)
@[simp] theorem abtw_t {lo hi : Int} {xs : List D} : abtw lo hi (.tuple xs) = xs.all (btw lo hi) := (rfl)
@[simp] theorem abtw_d {lo hi : Int} {kvs : List (D × D)} : abtw lo hi (.dict kvs) = false := (rfl)
@[simp] theorem abtw_l {lo hi : Int} {xs : List D} : abtw lo hi (.list xs) = false := (rfl)
/-- no dict, and not one within a tuple -/
def nd2 : D → Bool
  | .tuple ds => ds.all nd && decide (ds.length ≤ maxLen)
  | d => nd d
@[simp] theorem nd2_t {xs : List D} : nd2 (.tuple xs) = (xs.all nd && decide (xs.length ≤ maxLen)) := (rfl)
def lenD : D → Nat
  | .tuple ds => ds.length
  | _ => 0
@[simp] theorem lenD_t {xs : List D} : lenD (.tuple xs) = xs.length := (rfl)
/-- a row of ints, a rung, rungs, a ladder -/
def dInts (xs : List Int) : D := .tuple (xs.map .int)
def dR (r : Int × Int) : D := .tuple [.int r.1, .int r.2]
def dRs (rs : List (Int × Int)) : D := .tuple (rs.map dR)
def dLad (many : Int) (rs : List (Int × Int)) : D := .tuple [.int many, dRs rs]
def okR (many : Int) (r : Int × Int) : Prop := 0 ≤ r.1 ∧ r.1 < r.2 ∧ r.2 < many
structure okL (many : Int) (rs : List (Int × Int)) : Prop where
  lo : 1 ≤ many
  hi : many ≤ 10
  len : rs.length ≤ 80
  each : ∀ r ∈ rs, okR many r
structure okRow (many : Int) (xs : List Int) : Prop where
  len : (xs.length : Int) = many
  each : ∀ x ∈ xs, -1000000000 ≤ x ∧ x ≤ 1000000000
theorem boolsMap (f : D → Bool) {ds : List D} : bools? (ds.map fun d => .bool (f d)) = some (ds.map f) := by
  induction ds with
  | nil => rfl
  | cons d r ih => simp [bools?, ih]
theorem b_all (f : D → Bool) {ds : List D} : blt .all [.list (ds.map fun d => .bool (f d))] = some (.v (.bool (ds.all f))) := by
  simp [blt, boolsMap]
theorem flat_map {α : Type} {ds : List D} (f : D → α) : (ds.map fun d => [f d]).flatten = ds.map f := by
  induction ds with
  | nil => rfl
  | cons d r ih => simp [ih]
theorem cast_eqv {i j : Int} : PyData.eqv (.int i) (.int j) = decide (i = j) := by
  show (i == j) = decide (i = j)
  by_cases h : i = j <;> simp [h]
/-- a source of draws: at most B drawn behind its own number -/
structure PotOk (B : Nat) (ds : List D) : Prop where
  ex : ∃ a b c : Int, ds = [.int a, .int b, .int c] ∧ 0 ≤ a ∧ bd a 300 ∧ 0 ≤ b ∧ bd b 20 ∧ 0 ≤ c ∧ c ≤ B
/-- the cell n of the store is such a source -/
structure PotAt (n B : Nat) (st : Sto) : Prop where
  ex : ∃ ds, st[n]? = some ds ∧ PotOk B ds
theorem PotOk.mono {B C : Nat} {ds : List D} (h : PotOk B ds) (l : B ≤ C) : PotOk C ds := by
  obtain ⟨a, b, c, e, h1, h2, h3, h4, h5, h6⟩ := h.ex
  exact ⟨a, b, c, e, h1, h2, h3, h4, h5, by omega⟩
theorem PotAt.mono {n B C : Nat} {st : Sto} (h : PotAt n B st) (l : B ≤ C) : PotAt n C st := by
  obtain ⟨ds, e, p⟩ := h.ex
  exact ⟨ds, e, p.mono l⟩
abbrev dCell (n : Nat) : D := .dict [(.none, .int (n : Int))]
@[simp] theorem cell_of {n : Nat} : cellOf (.dict [(.none, .int (n : Int))]) = some n := rfl
theorem atI_int {ns : List Int} {p : Nat} (h : p < ns.length) : ∃ c : Int, L2.atI (ns.map PyData.int) (p : Int) = some (.int c) := ⟨ns[p], by rw [atI_nat]; simp [h]⟩
theorem bd_nat {p m : Nat} (h : p < 10 ^ m) : bd (p : Int) m := by unfold bd; simpa using h
theorem bd_lit {i : Int} {m : Nat} (h : i.natAbs < 10 ^ m) : bd i m := h
theorem setAt_ints {xs : List Int} {i x : Int} (h : 0 ≤ i) (h' : i < xs.length) : setAt (xs.map PyData.int) (.int i) (.int x) = some ((xs.set i.toNat x).map PyData.int) := by
  obtain ⟨n, rfl⟩ := Int.eq_ofNat_of_zero_le h
  have : L2.ixN xs.length (n : Int) = some n := by
    unfold L2.ixN
    rw [if_pos h, if_pos h']
    simp
  simp [setAt, this, List.map_set]
end

theorem eqvAll_ints : ∀ {xs ys : List Int}, PyData.eqvAll (xs.map PyData.int) (ys.map PyData.int) = decide (xs = ys)
  | [], [] => by simp [PyData.eqvAll]
  | [], y :: ys => by simp [PyData.eqvAll]
  | x :: xs, [] => by simp [PyData.eqvAll]
  | x :: xs, y :: ys => by
    simp only [List.map_cons, PyData.eqvAll]
    rw [eqvAll_ints, cast_eqv]
    by_cases h1 : x = y <;> by_cases h2 : xs = ys <;> simp [h1, h2]
theorem eqv_ints {xs ys : List Int} : PyData.eqv (dInts xs) (dInts ys) = decide (xs = ys) := by
  unfold dInts
  rw [PyData.eqv]
  exact eqvAll_ints
theorem sh_ints {n : Nat} {xs : List Int} : shal (n + 1) (dInts xs) = true := sh_tup fun d hd => by
  obtain ⟨x, _, rfl⟩ := List.mem_map.mp hd
  exact sh_int
theorem fl_ints {xs : List Int} : flat (dInts xs) = true := fl_sh (n := 1) sh_ints (by omega)

section
variable {m : Int} {rs : List (Int × Int)} {xs : List Int} {st : Sto} {ρ : Rho} {a b : Nat}
@[simp] theorem bi_lad : bindTg (.tp (.cons (.nm a) (.cons (.nm b) .nil))) (dLad m rs) ρ = some ((ρ.set a (some (.v (.int m)))).set b (some (.v (dRs rs)))) := by simp [dLad]
@[simp] theorem lk_lad : look st (dLad m rs) = dLad m rs := rfl
@[simp] theorem lk_ints : look st (dInts xs) = dInts xs := rfl
@[simp] theorem s_lad0 : sub2 (dLad m rs) (.int 0) = some (.int m) := by simp [dLad]
@[simp] theorem s_lad1 : sub2 (dLad m rs) (.int 1) = some (dRs rs) := by simp [dLad]
@[simp] theorem it_ints : itemsOf (dInts xs) = some (xs.map .int) := rfl
@[simp] theorem it_rs : itemsOf (dRs rs) = some (rs.map dR) := rfl
@[simp] theorem r_ints : rev1 (dInts xs) = some (.v (dInts xs.reverse)) := by simp [dInts, List.map_reverse]
@[simp] theorem r_rs : rev1 (dRs rs) = some (.v (dRs rs.reverse)) := by simp [dRs, List.map_reverse]
@[simp] theorem b_listI : blt .list [dInts xs] = some (.o (xs.map .int)) := rfl
end

theorem f_is_integer {P : Nat → Option FD} {W k : Nat} {st : Sto} (h : H_is_integer P) {d : D} (hd : nd d = true) : evF P W (k + 1) 455 [d] st = some (.v (.bool (isI d)), st) := by
  apply eq_of_wp
  apply w_fn h.p rfl
  cases d <;> simp [b_is_integer]
  case dict => simp [is_dct hd]

theorem f_is_between {P : Nat → Option FD} {W k : Nat} {st : Sto} (h : H_is_between P) {d : D} {lo hi : Int} (hd : nd d = true) : evF P W (k + 2) 449 [d, .int lo, .int hi] st = some (.v (.bool (btw lo hi d)), st) := by
  apply eq_of_wp
  apply w_fn h.p rfl
  cases d
  case dict => simp [b_is_between, f_is_integer h.is_integer hd]
  all_goals simp [b_is_between, f_is_integer h.is_integer]
  case int i => by_cases h1 : lo ≤ i <;> simp [h1]

theorem f_are_between {P : Nat → Option FD} {W k : Nat} {st : Sto} (h : H_are_between P) {d : D} {lo hi : Int} (hd : nd2 d = true) : evF P W (k + 3) 261 [d, .int lo, .int hi] st = some (.v (.bool (abtw lo hi d)), st) := by
  apply eq_of_wp
  apply w_fn h.p rfl
  cases d <;> simp [b_are_between]
  case tuple ds =>
    simp only [nd2_t, Bool.and_eq_true, List.all_eq_true, decide_eq_true_eq] at hd
    have e : ∀ (ρ : Rho), mapM (itemF (evF P W (k + 2)) [3] (.nm 3) .nil (.call 449 (.cons false (.var 3) (.cons false (.var 1) (.cons false (.var 2) .nil)))) [some (.v (.tuple ds)), some (.v (.int lo)), some (.v (.int hi)), none]) ds st = some (ds.map fun d => .bool (btw lo hi d), st) := fun ρ => by
      rw [mapM_pure (g := fun d => [.bool (btw lo hi d)]) (fun d hm => ?_), flat_map]
      apply eq_of_wp
      simp [f_is_between h.is_between (hd.1 d hm)]
    rw [e []]
    simp [hd.2, b_all]
  case dict => simp [is_dct (show nd _ = true from hd)]

theorem f_check_many {P : Nat → Option FD} {W k : Nat} {st : Sto} (h : H_check_many P) {n : Int} (h1 : 1 ≤ n) (h2 : n ≤ 10) : evF P W (k + 3) 314 [.int n] st = some (.v .none, st) := by
  apply eq_of_wp
  apply w_fn h.p rfl
  simp [b_check_many, f_is_between h.is_between, h1, h2]

theorem f_is_rung {P : Nat → Option FD} {W k : Nat} {st : Sto} (h : H_is_rung P) {n : Int} {r : Int × Int} (hr : okR n r) : evF P W (k + 4) 473 [.int n, dR r] st = some (.v (.bool true), st) := by
  obtain ⟨h1, h2, h3⟩ := hr
  apply eq_of_wp
  apply w_fn h.p rfl
  have a1 : 0 ≤ r.2 := by omega
  have a2 : r.1 ≤ n - 1 := by omega
  have a3 : r.2 ≤ n - 1 := by omega
  simp [b_is_rung, f_are_between h.are_between, dR, c_eq, cast_eqv, h1, h2, a1, a2, a3, maxLen]

theorem f_is_ladder {P : Nat → Option FD} {W k : Nat} {st : Sto} (h : H_is_ladder P) {n : Int} {rs : List (Int × Int)} (hl : okL n rs) : evF P W (k + 5) 456 [dLad n rs] st = some (.v (.bool true), st) := by
  apply eq_of_wp
  apply w_fn h.p rfl
  have e : mapM (itemF (evF P W (k + 4)) [1] (.nm 1) .nil (.call 473 (.cons false (.sub (.var 0) (.con (.int 0))) (.cons false (.var 1) .nil))) [some (.v (.tuple [.int n, .tuple (rs.map dR)])), none]) (rs.map dR) st = some ((rs.map dR).map fun _ => .bool true, st) := by
    rw [mapM_pure (g := fun d => [.bool true]) (fun d hm => ?_), flat_map]
    obtain ⟨r, hr, rfl⟩ := List.mem_map.mp hm
    apply eq_of_wp
    simp [f_is_rung h.is_rung (hl.each r hr)]
  have hlen : (rs.length : Int) ≤ 80 := by have := hl.len; omega
  have hm : rs.length ≤ maxLen := by have := hl.len; simp [maxLen]; omega
  have hb := b_all (fun _ => true) (ds := rs.map dR)
  simp at hb
  simp [b_is_ladder, dLad, dRs, c_ne, cast_eqv, f_is_between h.is_between, hl.lo, hl.hi, hlen, e, hm, hb]

theorem f_check_ladder {P : Nat → Option FD} {W k : Nat} {st : Sto} (h : H_check_ladder P) {n : Int} {rs : List (Int × Int)} (hl : okL n rs) : evF P W (k + 6) 309 [dLad n rs] st = some (.v .none, st) := by
  apply eq_of_wp
  apply w_fn h.p rfl
  simp [b_check_ladder, f_is_ladder h.is_ladder hl]

theorem f_is_row_of {P : Nat → Option FD} {W k : Nat} {st : Sto} (h : H_is_row_of P) {n : Int} {d : D} (hd : nd2 d = true) : evF P W (k + 4) 472 [.int n, d] st = some (.v (.bool (abtw (-1000000000) 1000000000 d && decide ((lenD d : Int) = n))), st) := by
  apply eq_of_wp
  apply w_fn h.p rfl
  simp [b_is_row_of, f_are_between h.are_between hd]
  cases d with
  | tuple ds => cases hb : ds.all (btw (-1000000000) 1000000000) <;> simp [hb, c_eq, cast_eqv]
  | _ => simp
theorem row_ok {n : Int} {xs : List Int} (hr : okRow n xs) (hn : n ≤ 100) : nd2 (dInts xs) = true ∧ abtw (-1000000000) 1000000000 (dInts xs) = true ∧ (lenD (dInts xs) : Int) = n := by
  have h1 := hr.len
  refine ⟨?_, ?_, ?_⟩
  · simp [dInts, maxLen]; omega
  · simp only [dInts, abtw_t, List.all_map, List.all_eq_true]
    intro x hx
    have := hr.each x hx
    simp [this]
  · simpa [dInts] using h1
theorem f_is_row_ok {P : Nat → Option FD} {W k : Nat} {st : Sto} (h : H_is_row_of P) {n : Int} {xs : List Int} (hr : okRow n xs) (hn : n ≤ 100) : evF P W (k + 4) 472 [.int n, dInts xs] st = some (.v (.bool true), st) := by
  obtain ⟨h1, h2, h3⟩ := row_ok hr hn
  rw [f_is_row_of h h1, h2, h3]
  simp

theorem f_check_row {P : Nat → Option FD} {W k : Nat} {st : Sto} (h : H_check_row P) {n : Int} {rs : List (Int × Int)} {xs : List Int} (hl : okL n rs) (hr : okRow n xs) : evF P W (k + 7) 325 [dLad n rs, dInts xs] st = some (.v .none, st) := by
  apply eq_of_wp
  apply w_fn h.p rfl
  have e1 : evF P W (k + 6) 309 [dLad n rs, dInts xs] st = none ∨ True := .inr trivial
  have e2 : evF P W (k + 6) 472 [.int n, dInts xs] st = some (.v (.bool true), st) := f_is_row_ok (k := k + 2) h.is_row_of hr (by have := hl.hi; omega)
  simp [b_check_row, f_check_ladder h.check_ladder hl]
  simp [dLad, e2]

/-- an entry of a row -/
def gI (xs : List Int) (i : Int) : Int := xs.getD i.toNat 0
/-- a rung passed: the lesser value on the rung's first track -/
def passL (xs : List Int) (r : Int × Int) : List Int := if gI xs r.1 ≤ gI xs r.2 then xs else (xs.set r.1.toNat (gI xs r.2)).set r.2.toNat (gI xs r.1)
theorem passL_len (xs : List Int) (r : Int × Int) : (passL xs r).length = xs.length := by
  unfold passL; split <;> simp
theorem passL_cut {xs : List Int} {a b : Nat} (h : a < b) (hb : b < xs.length) (x y : Int) : (xs.set a y).set b x = xs.take a ++ (y :: ((xs.drop (a + 1)).take (b - (a + 1)) ++ (x :: xs.drop (b + 1)))) := by
  apply List.ext_getElem?
  intro i
  rw [List.getElem?_set, List.getElem?_set]
  simp only [List.length_set]
  rcases Nat.lt_trichotomy i a with h1 | h1 | h1
  · rw [List.getElem?_append_left (by simp; omega), List.getElem?_take_of_lt h1, if_neg (by omega), if_neg (by omega)]
  · subst h1
    rw [List.getElem?_append_right (by simp; omega)]
    have : i - (xs.take i).length = 0 := by simp; omega
    rw [this, if_neg (by omega), if_pos rfl, if_pos (by omega)]
    rfl
  · rw [List.getElem?_append_right (by simp; omega)]
    have e : i - (xs.take a).length = (i - a - 1) + 1 := by simp; omega
    rw [e, List.getElem?_cons_succ]
    rcases Nat.lt_trichotomy i b with h2 | h2 | h2
    · rw [List.getElem?_append_left (by simp; omega), List.getElem?_take_of_lt (by omega), List.getElem?_drop, if_neg (by omega), if_neg (by omega)]
      congr 1; omega
    · subst h2
      rw [List.getElem?_append_right (by simp; omega)]
      have : i - a - 1 - ((xs.drop (a + 1)).take (i - (a + 1))).length = 0 := by simp; omega
      rw [this, if_pos rfl, if_pos (by omega)]
      rfl
    · rw [List.getElem?_append_right (by simp; omega)]
      have e : i - a - 1 - ((xs.drop (a + 1)).take (b - (a + 1))).length = (i - b - 1) + 1 := by simp; omega
      rw [e, List.getElem?_cons_succ, List.getElem?_drop, if_neg (by omega), if_neg (by omega)]
      congr 1; omega
theorem atI_ints {xs : List Int} {i : Int} (h : 0 ≤ i) (h' : i < xs.length) : L2.atI (xs.map PyData.int) i = some (.int (gI xs i)) := by
  obtain ⟨n, rfl⟩ := Int.eq_ofNat_of_zero_le h
  rw [atI_nat]
  have hn : n < xs.length := by omega
  simp [List.getElem?_eq_getElem hn, gI]
theorem cut_take {α : Type} {xs : List α} {i : Int} (h : 0 ≤ i) : cut xs none (some i) = xs.take i.toNat := by
  obtain ⟨n, rfl⟩ := Int.eq_ofNat_of_zero_le h
  unfold cut
  rw [HT.sIx_none, HT.sIx_nat]
  simp
theorem cut_drop {α : Type} {xs : List α} {i : Int} (h : 0 ≤ i) : cut xs (some i) none = xs.drop i.toNat := by
  obtain ⟨n, rfl⟩ := Int.eq_ofNat_of_zero_le h
  unfold cut
  rw [HT.sIx_none, HT.sIx_nat]
  rw [List.take_of_length_le (by simp)]
  rcases Nat.le_total n xs.length with hn | hn
  · rw [Nat.min_eq_left hn]; rfl
  · rw [Nat.min_eq_right hn]
    simp [hn]
theorem cut_mid {α : Type} {xs : List α} {i j : Int} (h : 0 ≤ i) (h' : i ≤ xs.length) (hj : 0 ≤ j) : cut xs (some i) (some j) = (xs.drop i.toNat).take (j.toNat - i.toNat) := by
  obtain ⟨n, rfl⟩ := Int.eq_ofNat_of_zero_le h
  obtain ⟨m, rfl⟩ := Int.eq_ofNat_of_zero_le hj
  unfold cut
  rw [HT.sIx_nat, HT.sIx_nat]
  have hn : n ≤ xs.length := by omega
  rw [Nat.min_eq_left hn]
  simp only [Int.toNat_natCast]
  rcases Nat.le_total m xs.length with hm | hm
  · rw [Nat.min_eq_left hm]
  · rw [Nat.min_eq_right hm, List.take_of_length_le (Nat.le_of_eq (by simp)), List.take_of_length_le (by simp; omega)]
@[simp] theorem ai_n : asInt? none = some none := rfl
theorem ai_i {i : Int} (h : -(2 ^ 60) < i) (h' : i < 2 ^ 60) : asInt? (some (.int i)) = some (some i) := by
  unfold asInt?
  simp only [h, h', decide_true, Bool.and_self, if_true]
theorem sl_t {xs : List D} {lo hi : Option D} {i j : Option Int} (h : asInt? lo = some i) (h' : asInt? hi = some j) : sl3 (.tuple xs) lo hi = some (.v (.tuple (cut xs i j))) := by simp [sl3, h, h']
theorem sl_l {xs : List D} {lo hi : Option D} {i j : Option Int} (h : asInt? lo = some i) (h' : asInt? hi = some j) : sl3 (.list xs) lo hi = some (.o (cut xs i j)) := by simp [sl3, h, h']
theorem f_passed {P : Nat → Option FD} {W k : Nat} {st : Sto} (h : H_passed P) {n : Int} {r : Int × Int} {xs : List Int} (hr : okR n r) (hx : (xs.length : Int) = n) (hn : n ≤ 100) : evF P W (k + 1) 568 [dInts xs, dR r] st = some (.v (dInts (passL xs r)), st) := by
  obtain ⟨h1, h2, h3⟩ := hr
  apply eq_of_wp
  apply w_fn h.p rfl
  have a1 : 0 ≤ r.2 := by omega
  have a2 : r.1 < xs.length := by omega
  have a3 : r.2 < xs.length := by omega
  simp [b_passed, dInts, dR, atI_ints, h1, a1, a2, a3]
  split
  · rename_i hle
    simp [passL, hle]
  · rename_i hle
    rw [sl_t ai_n (ai_i (by omega) (by omega)), sl_t (ai_i (by omega) (by omega)) (ai_i (by omega) (by omega)), sl_t (ai_i (by omega) (by omega)) ai_n]
    simp only [wp_some, d_v, it_tup, List.append_nil]
    rw [cut_take h1, cut_mid (by omega) (by simp; omega) a1, cut_drop (by omega)]
    refine ⟨?_, ?_⟩
    · simp [maxLen]; omega
    · simp only [passL, if_neg hle]
      rw [passL_cut (by omega) (by omega)]
      have e1 : (r.1 + 1).toNat = r.1.toNat + 1 := by omega
      have e2 : (r.2 + 1).toNat = r.2.toNat + 1 := by omega
      simp [e1, e2, List.map_take, List.map_drop]

def comeL (rs : List (Int × Int)) (xs : List Int) : List Int := rs.foldl passL xs
theorem comeL_len (rs : List (Int × Int)) : ∀ xs : List Int, (comeL rs xs).length = xs.length := by
  induction rs with
  | nil => intro xs; rfl
  | cons r t ih => intro xs; show (comeL t (passL xs r)).length = _; rw [ih, passL_len]
theorem comeL_snoc {rs : List (Int × Int)} {i : Nat} {r : Int × Int} (h : rs[i]? = some r) (xs : List Int) : comeL (rs.take (i + 1)) xs = passL (comeL (rs.take i) xs) r := by
  unfold comeL
  rw [List.take_add_one, h, List.foldl_append]
  rfl
theorem map_at {α β : Type} {f : α → β} {l : List α} {i : Nat} {d : β} (h : (l.map f)[i]? = some d) : ∃ a, l[i]? = some a ∧ d = f a := by
  rw [List.getElem?_map] at h
  obtain ⟨a, h1, h2⟩ := Option.map_eq_some_iff.mp h
  exact ⟨a, h1, h2.symm⟩
theorem f_come_out {P : Nat → Option FD} {W k : Nat} {st : Sto} (h : H_come_out P) {n : Int} {rs : List (Int × Int)} {xs : List Int} (hl : ∀ r ∈ rs, okR n r) (hx : (xs.length : Int) = n) (hn : n ≤ 100) : evF P W (k + 2) 356 [dRs rs, dInts xs] st = some (.v (dInts (comeL rs xs)), st) := by
  apply eq_of_wp
  apply w_fn h.p rfl
  simp only [b_come_out, wSs_cons, wS_for, wI_seq, wE_var, in_0]
  refine ⟨_, rfl, ?_⟩
  simp only [d_v, dRs, it_tup, wp_some]
  refine wp_loop (fun i ρ s => s = st ∧ ∃ z, ρ = [some (.v (.tuple (rs.map dR))), some (.v (dInts (comeL (rs.take i) xs))), z]) ⟨rfl, none, by simp [comeL]⟩ ?_ ?_
  · rintro i d ρ s hd ⟨rfl, z, rfl⟩
    obtain ⟨r, hr, rfl⟩ := map_at hd
    have e := f_passed (k := k) (W := W) (st := s) h.passed (r := r) (xs := comeL (rs.take i) xs) (hl r (List.mem_of_getElem? hr)) (by rw [comeL_len]; exact hx) hn
    simp [e, comeL_snoc hr]
  · rintro ρ s ⟨rfl, z, rfl⟩
    simp [dInts]

theorem f_run {P : Nat → Option FD} {W k : Nat} {st : Sto} (h : H_run P) {n : Int} {rs : List (Int × Int)} {xs : List Int} (hl : okL n rs) (hr : okRow n xs) : evF P W (k + 8) 591 [dLad n rs, dInts xs] st = some (.v (dInts (comeL rs xs)), st) := by
  apply eq_of_wp
  apply w_fn h.p rfl
  have e1 := f_check_row (k := k) (W := W) (st := st) h.check_row hl hr
  have e2 := f_come_out (k := k + 5) (W := W) (st := st) h.come_out hl.each hr.len (by have := hl.hi; omega)
  simp [b_run, e1]
  simp [dLad, e2]

/-! ### all bits -/
def bitsAll : Nat → List (List Int)
  | 0 => [[]]
  | n + 1 => ((bitsAll n).map fun r => [r ++ [0], r ++ [1]]).flatten
theorem bitsAll_len : ∀ n, (bitsAll n).length = 2 ^ n
  | 0 => rfl
  | n + 1 => by
    have h : ∀ l : List (List Int), ((l.map fun r => [r ++ [0], r ++ [1]]).flatten).length = l.length * 2 := by
      intro l
      induction l with
      | nil => rfl
      | cons a r ih => rw [List.map_cons, List.flatten_cons, List.length_append, ih, List.length_cons]; simp; omega
    show (((bitsAll n).map fun r => [r ++ [0], r ++ [1]]).flatten).length = _
    rw [h, bitsAll_len n, Nat.pow_succ]
theorem bitsAll_mem {x : List Int} : ∀ {n : Nat}, x ∈ bitsAll n ↔ x.length = n ∧ ∀ b ∈ x, b = 0 ∨ b = 1 := by
  intro n
  induction n generalizing x with
  | zero =>
    simp only [bitsAll, List.mem_singleton]
    constructor
    · rintro rfl; simp
    · intro h; exact List.eq_nil_of_length_eq_zero h.1
  | succ n ih =>
    show x ∈ ((bitsAll n).map fun r => [r ++ [0], r ++ [1]]).flatten ↔ _
    simp only [List.mem_flatten, List.mem_map]
    constructor
    · rintro ⟨_, ⟨r, hr, rfl⟩, hx⟩
      obtain ⟨h1, h2⟩ := ih.mp hr
      simp only [List.mem_cons, List.not_mem_nil, or_false] at hx
      rcases hx with rfl | rfl
      · refine ⟨by simp [h1], fun b hb => ?_⟩
        rcases List.mem_append.mp hb with hb | hb
        · exact h2 b hb
        · simp at hb; exact .inl hb
      · refine ⟨by simp [h1], fun b hb => ?_⟩
        rcases List.mem_append.mp hb with hb | hb
        · exact h2 b hb
        · simp at hb; exact .inr hb
    · rintro ⟨h1, h2⟩
      have hne : x ≠ [] := fun z => by subst z; simp at h1
      have e := List.dropLast_concat_getLast hne
      have hr : x.dropLast ∈ bitsAll n := ih.mpr ⟨by simp [h1], fun b hb => h2 b (List.dropLast_subset x hb)⟩
      refine ⟨_, ⟨x.dropLast, hr, rfl⟩, ?_⟩
      rcases h2 _ (List.getLast_mem hne) with q | q
      · rw [q] at e; simp [e]
      · rw [q] at e; simp [e]
theorem bits_len {x : List Int} {n : Nat} (h : x ∈ bitsAll n) : x.length = n := (bitsAll_mem.mp h).1
theorem pow_le6 {n : Nat} (h : n ≤ 6) : 2 ^ n ≤ 64 := by
  have := Nat.pow_le_pow_right (n := 2) (by omega) h
  omega
theorem pow_le8 {n : Nat} (h : n ≤ 8) : 2 ^ n ≤ 256 := by
  have := Nat.pow_le_pow_right (n := 2) (by omega) h
  omega
theorem rangeOf_nat {n : Nat} (h : n ≤ 1000) : rangeOf [.int (n : Int)] = some (rangeL 0 n) := by
  have h1 : small (n : Int) = true := by simp [small]; omega
  have h2 : (n : Int) ≤ maxLen := by show (n : Int) ≤ (100000 : Nat); omega
  simp [rangeOf, h1, h2]
theorem f_bits_of8 {P : Nat → Option FD} {W k : Nat} {st : Sto} (h : H_bits_of P) {n : Nat} (hn : n ≤ 8) : evF P W (k + 1) 291 [.int (n : Int)] st = some (.v (.list ((bitsAll n).map dInts)), st) := by
  apply eq_of_wp
  apply w_fn h.p rfl
  have hr : rangeOf [.int (n : Int)] = some (rangeL 0 n) := rangeOf_nat (by omega)
  have h1m : 1 ≤ maxLen := by simp [maxLen]
  simp [b_bits_of, hr, h1m, -seqQ_nx]
  rw [seqQ_nx]
  simp [hr, -seqQ_nx]
  refine wp_loop (fun i ρ s => s = st ∧ ∃ x y z : Option RV, ρ = [some (RV.v (.int (n : Int))), some (RV.v (.list ((bitsAll i).map dInts))), x, y, z]) ⟨rfl, none, none, none, rfl⟩ ?_ ?_
  · rintro i d ρ s hd ⟨rfl, x, y, z, rfl⟩
    have hi : i < n := by
      have := (List.getElem?_eq_some_iff.mp hd).1
      simpa [rangeL] using this
    simp
    refine wp_comp2 (f := fun r => [dInts (r ++ [0]), dInts (r ++ [1])]) (fun r hr => ?_) ?_
    · have hl := bits_len hr
      have hm : r.length + 1 ≤ maxLen := by simp [maxLen]; omega
      have hm2 : 2 ≤ maxLen := by simp [maxLen]
      simp [hm2, wM_cons, wM_nil]
      exact ⟨hm, by simp [dInts], by simp [dInts]⟩
    · have hl := bitsAll_len (i + 1)
      have hp := pow_le8 (show i + 1 ≤ 8 by omega)
      have e : ((bitsAll i).map fun r => [dInts (r ++ [0]), dInts (r ++ [1])]).flatten = (bitsAll (i + 1)).map dInts := by
        show _ = (((bitsAll i).map fun r => [r ++ [0], r ++ [1]]).flatten).map dInts
        rw [List.map_flatten, List.map_map]
        rfl
      refine ⟨?_, rfl, e⟩
      show (((bitsAll i).map fun r => [dInts (r ++ [0]), dInts (r ++ [1])]).flatten).length ≤ maxLen
      rw [e, List.length_map, hl]
      exact Nat.le_trans hp (by simp [maxLen])
  · rintro ρ s ⟨rfl, x, y, z, rfl⟩
    simp [rangeL]
theorem f_bits_of {P : Nat → Option FD} {W k : Nat} {st : Sto} (h : H_bits_of P) {n : Nat} (hn : n ≤ 6) : evF P W (k + 1) 291 [.int (n : Int)] st = some (.v (.list ((bitsAll n).map dInts)), st) := f_bits_of8 h (by omega)

theorem sum_bd : ∀ {ns : List Int}, ints? (ns.map PyData.int) = some ns
  | [] => rfl
  | n :: r => by simp [ints?, sum_bd]
theorem f_pot {P : Nat → Option FD} {W k : Nat} {st : Sto} (h : H_u_law_pot P) {ns : List Int} {p : Nat} (hp : p < 1000) :
    ∃ ds, PotOk 0 ds ∧ evF P W (k + 1) 204 [.list (ns.map .int), .int (p : Int)] st = some (.o ds, st) := by
  have key : wp (evF P W (k + 1) 204 [.list (ns.map .int), .int (p : Int)] st) fun q => ∃ ds, PotOk 0 ds ∧ q = (.o ds, st) := by
    apply w_fn h.p rfl
    have hpb : bd (p : Int) 3 := bd_nat hp
    have hpB := big_bd hpb (by decide)
    simp only [b_u_law_pot, wSs_cons, wS_asg]
    refine wp_mono (Q := fun q => ∃ c : Int, q = (.v (.int c), st)) ?_ ?_
    · simp
      by_cases hlt : p < ns.length
      · obtain ⟨c, hc⟩ := atI_int hlt
        simp [hlt, hc]
      · have e1 : sl3 (.list (ns.map PyData.int)) none (some (.int 1)) = some (.o ((ns.map PyData.int).take 1)) := by
          simp [sl3, asInt?]
          unfold cut
          rw [HT.sIx_none, show (some (1 : Int)) = some ((1 : Nat) : Int) from rfl, HT.sIx_nat]
          simp
        have e2 : blt .sum [.list ((ns.map PyData.int).take 1)] = some (.v (.int (ns.take 1).sum)) := by
          rw [← List.map_take]
          simp only [blt, sum_bd, Option.map_some]
        simp [hlt, e1, e2, hpB]
        decide +kernel
    · rintro _ ⟨c, rfl⟩
      simp [hpB]
      have ha : 0 ≤ (if c < 0 then -c else c) := by split <;> omega
      generalize (if c < 0 then -c else c) = a at *
      have he : ∃ e : Int, (if 1000000000000000000 ≤ a then 1 else 0) = e ∧ 0 ≤ e ∧ bd e 1 ∧ (e = 0 ∨ e = 1) := by
        by_cases q : 1000000000000000000 ≤ a
        · exact ⟨1, by simp [q], by decide, by unfold bd; decide, .inr rfl⟩
        · exact ⟨0, by simp [q], by decide, by unfold bd; decide, .inl rfl⟩
      obtain ⟨e, he0, he1, he2, he3⟩ := he
      rw [he0]
      have hm0 := Int.emod_nonneg a (b := 10 ^ 300) (by decide +kernel)
      have hm1 := bd_mod (i := a) (j := 10 ^ 300) (m := 301) (by decide +kernel) (by unfold bd; decide +kernel)
      have hm2 := Int.emod_lt_of_pos a (b := 10 ^ 300) (by decide +kernel)
      have hm3 : bd (a % 10 ^ 300) 300 := bd_of hm0 hm2
      have hp2 := bd_mul (bd_lit (i := 12045) (m := 10) (by decide)) hpb
      have hq0 := Int.emod_nonneg (c % 2305843009213693951 * 85459 + 12045 * (p : Int) * (p : Int) + 2118) (b := 2305843009213693921) (by decide)
      have hq1 := bd_mod (i := c % 2305843009213693951 * 85459 + 12045 * (p : Int) * (p : Int) + 2118) (j := 2305843009213693921) (m := 20) (by decide) (by unfold bd; decide)
      refine ⟨big_bd hm3 (by decide), big_bd he2 (by decide), big_bd (bd_mod (m := 20) (by decide) (by unfold bd; decide)) (by decide), big_bd (bd_lit (m := 10) (by decide)) (by decide), big_bd (bd_lit (m := 10) (by decide)) (by decide), big_bd hp2 (by decide), by decide, _, _, _, rfl, ?_, ?_, hq0, hq1, by decide, by decide⟩
      · exact Int.mul_nonneg hm0 he1
      · rcases he3 with rfl | rfl
        · rw [Int.mul_zero]; unfold bd; decide +kernel
        · rw [Int.mul_one]; exact hm3
  obtain ⟨q, e, ds, h1, rfl⟩ := key
  exact ⟨ds, h1, e⟩

theorem f_take {P : Nat → Option FD} {W k : Nat} {st : Sto} (h : H_u_law_take P) {n B : Nat} {u : Int} {Q : RV × Sto → Prop} (hu : 0 < u) (hu2 : bd u 18) (hp : PotAt n B st) (hB : B ≤ 10 ^ 15)
    (q : ∀ v st', 0 ≤ v → v < u → PotAt n (B + 1) st' → st'.length = st.length → Q (.v (.int v), st')) : wp (evF P W (k + 1) 230 [dCell n, .int u] st) Q := by
  obtain ⟨ds, hd, hpo⟩ := hp.ex
  obtain ⟨a, b, c, rfl, h1, h2, h3, h4, h5, h6⟩ := hpo.ex
  have hn : n < st.length := by
    rcases Nat.lt_or_ge n st.length with z | z
    · exact z
    · rw [List.getElem?_eq_none z] at hd; cases hd
  have hbu := big_bd hu2 (by omega)
  have q' : ∀ (v : Int) (ds' : List D), 0 ≤ v → v < u → PotOk (B + 1) ds' → Q (.v (.int v), st.set n ds') := fun v ds' a1 a2 a3 => q v _ a1 a2 ⟨ds', by rw [List.getElem?_set_self hn], a3⟩ (by simp)
  apply w_fn h.p rfl
  simp only [b_u_law_take]
  simp [look_at hd, setAt_3, hd, look_at (List.getElem?_set_self hn), hu, hbu]
  by_cases ha : 0 < a
  · rw [if_pos ha]
    refine q' _ _ (Int.emod_nonneg _ (by omega)) (Int.emod_lt_of_pos _ hu) ⟨_, _, _, rfl, Int.ediv_nonneg h1 (by omega), ?_, h3, h4, h5, by omega⟩
    have : a / u ≤ a := Int.ediv_le_self _ h1
    have h0 := Int.ediv_nonneg h1 (by omega : (0 : Int) ≤ u)
    unfold bd at *
    omega
  · rw [if_neg ha]
    have hc : bd (c + 1) 17 := bd_of (by omega) (by omega)
    have hc2 : 0 ≤ (c + 1) % 4 := Int.emod_nonneg _ (by omega)
    have hc3 : (c + 1) % 4 < 4 := Int.emod_lt_of_pos _ (by omega)
    have hpr : ∃ p, L2.atI [PyData.int 2147483647, PyData.int 2147483629, PyData.int 2147483587, PyData.int 2147483579] ((c + 1) % 4) = some (.int p) ∧ 0 < p ∧ bd p 10 := by
      generalize (c + 1) % 4 = m at *
      have : m = 0 ∨ m = 1 ∨ m = 2 ∨ m = 3 := by omega
      rcases this with rfl | rfl | rfl | rfl <;> exact ⟨_, rfl, by decide, by unfold bd; decide⟩
    obtain ⟨p, hp1, hp2, hp3⟩ := hpr
    have lit : ∀ {i : Int} {m : Nat}, i.natAbs < 10 ^ m → bd i m := fun h => h
    have hx : bd (b + 119349 * (c + 1) * (c + 1) + 2818) 100 := bd_mono (bd_add (bd_add h4 (bd_mul (bd_mul (lit (m := 10) (by decide)) hc) hc)) (lit (m := 10) (by decide))) (by decide)
    have hcs : bd (2020 * (c + 1)) 30 := bd_mono (bd_mul (lit (m := 10) (by decide)) hc) (by decide)
    have hb1 := big_bd (lit (i := 119349) (m := 10) (by decide)) (by decide)
    have hb2 := big_bd hc (by decide)
    have hb3 := big_bd (bd_mul (lit (i := 119349) (m := 10) (by decide)) hc) (by decide)
    have hb4 := big_bd (lit (i := 2020) (m := 10) (by decide)) (by decide)
    rw [hp1]
    have hy := bd_mod (i := (b + 119349 * (c + 1) * (c + 1) + 2818) ^ 3) hp2 hp3
    have hy0 := Int.emod_nonneg ((b + 119349 * (c + 1) * (c + 1) + 2818) ^ 3) (by omega : p ≠ 0)
    simp [hb1, hb2, hb3, hb4, pow_bd hx (by decide), hp2, hu]
    generalize (b + 119349 * (c + 1) * (c + 1) + 2818) ^ 3 % p = y at *
    have hz : bd (y % 10007 + 2020 * (c + 1)) 40 := bd_mono (bd_add (bd_mod (j := 10007) (m := 10) (by decide) (by unfold bd; decide)) hcs) (by decide)
    refine ⟨by decide, big_bd hy (by decide), big_bd hz (by decide), by decide +kernel, ?_⟩
    exact q' _ _ (Int.emod_nonneg _ (by omega)) (Int.emod_lt_of_pos _ hu) ⟨_, _, _, rfl, h1, h2, h3, h4, by omega, by omega⟩

theorem f_of {P : Nat → Option FD} {W k : Nat} {st : Sto} (h : H_u_law_of P) {n B : Nat} {ds : List D} {Q : RV × Sto → Prop} (hd : ds ≠ []) (hl : ds.length ≤ maxLen) (hp : PotAt n B st) (hB : B ≤ 10 ^ 15)
    (q : ∀ d st', d ∈ ds → PotAt n (B + 1) st' → st'.length = st.length → Q (.v d, st')) : wp (evF P W (k + 2) 193 [dCell n, .list ds] st) Q := by
  apply w_fn h.p rfl
  have h0 : 0 < ds.length := List.length_pos_iff.mpr hd
  have hb : bd (ds.length : Int) 18 := by unfold bd; simp [maxLen] at hl ⊢; omega
  simp [b_u_law_of]
  refine f_take h.u_law_take (by omega) hb hp hB fun v st' h1 h2 hp' hl' => ?_
  obtain ⟨m, rfl⟩ := Int.eq_ofNat_of_zero_le h1
  have hm : m < ds.length := by omega
  simp only [d_v, l_list, s_list, atI_nat, List.getElem?_eq_getElem hm, wp_some]
  exact ⟨hl', q _ _ (List.getElem_mem hm) hp' hl'⟩

theorem f_cells {P : Nat → Option FD} {W k : Nat} {st : Sto} (h : H_u_law_cells P) {n : Int} {ns : List Int} (h1 : 1 ≤ n) (h2 : n ≤ 1000) :
    ∃ m : Nat, m ≤ n ∧ evF P W (k + 1) 67 [.list (ns.map .int), .int n] st = some (.o (rangeL 0 m), st) := by
  refine ⟨(max 1 (min n ns.length)).toNat, by omega, ?_⟩
  apply eq_of_wp
  apply w_fn h.p rfl
  have e : (if (if (ns.length : Int) < n then (ns.length : Int) else n) > 1 then (if (ns.length : Int) < n then (ns.length : Int) else n) else 1) = max 1 (min n ns.length) := by
    split <;> split <;> omega
  have hs : small (max 1 (min n ns.length)) = true := by simp [small]; omega
  have hm : max 1 (min n (ns.length : Int)) ≤ maxLen := by simp [maxLen]; omega
  have hr : rangeOf [.int (max 1 (min n (ns.length : Int)))] = some (rangeL 0 (max 1 (min n (ns.length : Int))).toNat) := by simp [rangeOf, hs, hm]
  simp only [gt_iff_lt] at e
  simp [b_u_law_cells, e, hr]

theorem map_erase {α β : Type} {f : α → β} : ∀ {l : List α} {n : Nat}, (l.map f).eraseIdx n = (l.eraseIdx n).map f
  | [], _ => by simp
  | _ :: _, 0 => by simp
  | _ :: r, n + 1 => by simp [map_erase (l := r)]
theorem f_lawladder {P : Nat → Option FD} {W k : Nat} {st : Sto} (h : H_u_law_ladder P) {n B : Nat} {m most : Int} {Q : RV × Sto → Prop} (hm : 1 ≤ m) (hm2 : m ≤ 8) (ho : 0 ≤ most) (ho2 : most ≤ 25) (hp : PotAt n B st) (hB : B ≤ 10 ^ 14)
    (q : ∀ rs st', (∀ r ∈ rs, okR m r) → rs.length ≤ 75 → PotAt n (B + 200) st' → st'.length = st.length → Q (.v (dLad m rs), st')) : wp (evF P W (k + 2) 174 [dCell n, .int m, .int most] st) Q := by
  apply w_fn h.p rfl
  simp [b_u_law_ladder, maxLen, -seqQ_nx]
  refine f_take h.u_law_take ?_ ?_ hp (by omega) fun way s1 a1 a2 hp1 hl1 => ?_
  · decide
  · unfold bd; decide
  rw [seqQ_nx, wSs_cons]
  refine wp_mono (Q := fun fl => ∃ (rs : List (Int × Int)) (s : Sto) (z : Option RV), fl = .nx [some (.v (dCell n)), some (.v (.int m)), some (.v (.int most)), none, some (.o (rs.map dR)), some (.v (.int way)), z, none, none] s ∧ (∀ r ∈ rs, okR m r) ∧ rs.length ≤ 49 ∧ PotAt n (B + 3) s ∧ s.length = st.length) ?_ ?_
  · rcases Decidable.em (way = 0) with rfl | hw
    · simp [c_eq, cast_eqv, -seqQ_nx]
      rw [rng_down (by omega) (by omega) (by omega) (by omega) (by omega)]
      simp only [wp_some]
      refine wp_loop (fun i ρ s => s = s1 ∧ ∃ (rs : List (Int × Int)) (z : Option RV), ρ = [some (.v (dCell n)), some (.v (.int m)), some (.v (.int most)), none, some (.o (rs.map dR)), some (.v (.int 0)), z, none, none] ∧ (∀ r ∈ rs, okR m r) ∧ rs.length ≤ 7 * i) ⟨rfl, [], none, rfl, fun r hr => by simp at hr, by simp⟩ ?_ ?_
      · rintro i d ρ s hd ⟨rfl, rs, z, rfl, hr, hl⟩
        obtain ⟨hi, rfl⟩ := rangeStep_at hd
        have hi' : (i : Int) < m - 1 := by omega
        simp [-seqQ_nx]
        rw [rng_1 (by omega) (by omega)]
        simp only [wp_some, rangeL]
        refine wp_comp (f := fun (t : Nat) => dR ((t : Int), (t : Int) + 1)) (fun t ht => ?_) ?_
        · simp [dR, maxLen]
        · simp [maxLen]
          have hlen : (m - 1 + -(i : Int)).toNat ≤ 7 := by omega
          refine ⟨by omega, by omega, rs ++ (List.range (m - 1 + -(i : Int)).toNat).map (fun (t : Nat) => ((t : Int), (t : Int) + 1)), by simp, ?_, by simp; omega⟩
          intro a b hr'
          rcases List.mem_append.mp hr' with hr' | hr'
          · exact hr (a, b) hr'
          · obtain ⟨t, ht, e⟩ := List.mem_map.mp hr'
            have := List.mem_range.mp ht
            cases e
            exact ⟨by simp, by simp; omega, by simp; omega⟩
      · rintro ρ s ⟨rfl, rs, z, rfl, hr, hl⟩
        rw [rangeStep_len] at hl
        have hlen : rs.length ≤ 49 := by omega
        simp only [wSs_cons, seqQ_nx, wS_ite]
        refine wp_mono (Q := fun p => ∃ (t : Bool) (s' : Sto), p = (.v (.bool t), s') ∧ (t = true → rs ≠ []) ∧ PotAt n (B + 2) s' ∧ s'.length = st.length) ?_ ?_
        · simp [-seqQ_nx]
          refine f_take h.u_law_take ?_ ?_ hp1 (by omega) fun v s2 b1 b2 hp2 hl2 => ?_
          · decide
          · unfold bd; decide
          rcases Decidable.em (v = 0) with rfl | hv
          · have e2 : flat (.list (rs.map dR)) = true := fl_sh (n := 2) (sh_list fun d hd => by
              obtain ⟨r, _, rfl⟩ := List.mem_map.mp hd
              exact sh_tup fun e he => by
                simp at he
                rcases he with rfl | rfl <;> exact sh_int) (by omega)
            have e3 : flat (.list []) = true := rfl
            simp [c_eq, c_ne, cast_eqv, e2, e3, maxLen]
            cases rs with
            | nil => exact .inl ⟨s2, ⟨by simp [PyData.eqv, PyData.eqvAll], rfl⟩, hp2.mono (by omega), by omega⟩
            | cons r t => exact .inr ⟨s2, ⟨by simp [PyData.eqv, PyData.eqvAll], rfl⟩, by simp, hp2.mono (by omega), by omega⟩
          · simp [c_eq, cast_eqv, hv]
            exact ⟨hp2.mono (by omega), by omega⟩
        · rintro _ ⟨t, s2, rfl, ht, hp2, hl2⟩
          cases t with
          | false =>
            simp
            exact ⟨rs, s2, ⟨rfl, rfl⟩, fun a b hr' => hr (a, b) hr', hlen, hp2.mono (by omega), hl2⟩
          | true =>
            simp [-seqQ_nx]
            have hpos : 0 < rs.length := List.length_pos_iff.mpr (ht rfl)
            refine f_take h.u_law_take (by omega) ?_ hp2 (by omega) fun v s3 b1 b2 hp3 hl3 => ?_
            · unfold bd; omega
            obtain ⟨u, rfl⟩ := Int.eq_ofNat_of_zero_le b1
            have hix : L2.ixN rs.length (u : Int) = some u := by
              unfold L2.ixN
              rw [if_pos b1, if_pos b2]
              simp
            simp [hix, maxLen]
            refine ⟨by omega, rs.eraseIdx u, s3, ⟨by rw [map_erase], rfl⟩, fun a b hr' => hr (a, b) (List.mem_of_mem_eraseIdx hr'), ?_, hp3.mono (by omega), by omega⟩
            have := List.length_eraseIdx_le rs u
            omega
    · have key : ∀ Q' : Fl → Prop, Q' (.nx [some (.v (dCell n)), some (.v (.int m)), some (.v (.int most)), none, some (.o []), some (.v (.int way)), none, none, none] s1) → ∀ bb, wp (evS (evF P W (k + 1)) W (.ite (.cmp .eq (.var 5) (.con (.int 0))) bb .nil) [some (.v (dCell n)), some (.v (.int m)), some (.v (.int most)), none, some (.o []), some (.v (.int way)), none, none, none] s1) Q' := fun Q' hq bb => by
        simp [c_eq, cast_eqv, hw]
        exact hq
      exact key _ ⟨[], s1, none, rfl, fun r hr => by simp at hr, by simp, hp1.mono (by omega), hl1⟩ _
  · rintro _ ⟨rs, s, z, rfl, hr, hl, hp2, hl2⟩
    rw [seqQ_nx, wSs_cons, wS_for, wI_rng, wEs_cons]
    refine wp_mono (Q := fun p => ∃ (L : Nat) (s' : Sto), p = (.v (.int (L : Int)), s') ∧ (L : Int) ≤ most ∧ (0 < L → 1 < m) ∧ PotAt n (B + 4) s' ∧ s'.length = st.length) ?_ ?_
    · simp
      by_cases h1 : 1 < m
      · by_cases h2 : 0 < way
        · simp [h1, h2]
          refine f_take h.u_law_take (by omega) ?_ hp2 (by omega) fun v s2 b1 b2 hp3 hl3 => ?_
          · exact bd_of (by omega) (by omega)
          obtain ⟨L, rfl⟩ := Int.eq_ofNat_of_zero_le b1
          exact ⟨L, s2, rfl, by omega, hp3.mono (by omega), by omega⟩
        · simp [h1, h2]
          exact ⟨0, s, ⟨rfl, rfl⟩, by omega, hp2.mono (by omega), hl2⟩
      · simp [h1]
        exact ⟨0, s, ⟨rfl, rfl⟩, by omega, by omega, hp2.mono (by omega), hl2⟩
    · rintro _ ⟨L, s2, rfl, hL, hL2, hp3, hl3⟩
      simp [-seqQ_nx]
      rw [rng_1 (by omega) (by omega)]
      simp only [wp_some]
      refine wp_loop (fun i ρ s' => ∃ (rs' : List (Int × Int)) (x y z' : Option RV), ρ = [some (.v (dCell n)), some (.v (.int m)), some (.v (.int most)), x, some (.o (rs'.map dR)), some (.v (.int way)), z', y, none] ∧ (∀ r ∈ rs', okR m r) ∧ rs'.length ≤ 49 + i ∧ PotAt n (B + 4 + 2 * i) s' ∧ s'.length = st.length) ⟨rs, none, none, z, rfl, hr, by omega, hp3, hl3⟩ ?_ ?_
      · rintro i d ρ s' hd ⟨rs', x, y, z', rfl, hr', hl', hp', hs'⟩
        obtain ⟨hi, rfl⟩ := rangeL_at hd
        have hm1 : 1 < m := hL2 (by omega)
        simp [-seqQ_nx]
        refine f_take h.u_law_take (by omega) ?_ hp' (by omega) fun v s3 b1 b2 hp4 hl4 => ?_
        · exact bd_of (by omega) (by omega)
        simp [-seqQ_nx]
        rw [seqQ_nx]
        simp
        refine f_take h.u_law_take (by omega) ?_ hp4 (by omega) fun u s4 c1 c2 hp5 hl5 => ?_
        · exact bd_of (by omega) (by omega)
        simp [maxLen]
        refine ⟨by omega, rs' ++ [(v, v + 1 + u)], ?_, ?_, by simp; omega, hp5.mono (by omega), by omega⟩
        · simp [dR]
        · intro a b hr0
          rcases List.mem_append.mp hr0 with hr0 | hr0
          · exact hr' (a, b) hr0
          · cases List.mem_singleton.mp hr0
            exact ⟨b1, by simp; omega, by simp; omega⟩
      · rintro ρ s' ⟨rs', x, y, z', rfl, hr', hl', hp', hs'⟩
        rw [rangeL_len] at hl' hp'
        simp [maxLen]
        refine ⟨hs', ?_⟩
        have := q rs' s' hr' (by omega) (hp'.mono (by omega)) hs'
        simpa [dLad, dRs] using this

theorem f_lawrow {P : Nat → Option FD} {W k : Nat} {st : Sto} (h : H_u_law_row P) {n B : Nat} {m : Nat} {Q : RV × Sto → Prop} (hm : m ≤ 20) (hp : PotAt n B st) (hB : B ≤ 10 ^ 14)
    (q : ∀ xs st', okRow (m : Int) xs → PotAt n (B + 100) st' → st'.length = st.length → Q (.v (dInts xs), st')) : wp (evF P W (k + 3) 209 [dCell n, .int (m : Int)] st) Q := by
  apply w_fn h.p rfl
  have hr : rangeOf [.int (m : Int)] = some (rangeL 0 m) := by
    have h1 : small (m : Int) = true := by simp [small]; omega
    have h2 : (m : Int) ≤ maxLen := by simp [maxLen]; omega
    simp [rangeOf, h1, h2]
  simp [b_u_law_row, hr]
  refine wp_mapI (fun i out s => ∃ xs : List Int, out = xs.map .int ∧ xs.length = i ∧ (∀ x ∈ xs, -1000000000 ≤ x ∧ x ≤ 1000000000) ∧ PotAt n (B + 3 * i) s ∧ s.length = st.length) ⟨[], rfl, rfl, by simp, hp, rfl⟩ ?_ ?_
  · rintro i d out s hd ⟨xs, rfl, hl, hx, hp', hs⟩
    obtain ⟨hi, rfl⟩ := rangeL_at hd
    simp
    refine f_take h.u_law_take ?_ ?_ hp' (by omega) fun v1 s1 a1 a2 hp1 hl1 => ?_
    · decide
    · unfold bd; decide
    simp
    refine f_take h.u_law_take ?_ ?_ hp1 (by omega) fun v2 s2 b1 b2 hp2 hl2 => ?_
    · decide
    · unfold bd; decide
    simp [maxLen]
    refine f_of h.u_law_of (by simp) (by simp [maxLen]) hp2 (by omega) fun d s3 hd hp3 hl3 => ?_
    have hdi : ∃ x : Int, d = .int x ∧ -1000000000 ≤ x ∧ x ≤ 1000000000 := by
      simp only [List.mem_cons, List.not_mem_nil, or_false] at hd
      rcases hd with rfl | rfl | rfl | rfl | rfl | rfl | rfl | rfl <;> exact ⟨_, rfl, by omega, by omega⟩
    obtain ⟨x, rfl, x1, x2⟩ := hdi
    simp
    refine ⟨xs ++ [x], by simp, by simp [hl], ?_, hp3.mono (by omega), by omega⟩
    intro y hy
    rcases List.mem_append.mp hy with hy | hy
    · exact hx y hy
    · rw [List.mem_singleton.mp hy]; exact ⟨x1, x2⟩
  · rintro out s ⟨xs, rfl, hl, hx, hp', hs⟩
    rw [rangeL_len] at hl hp'
    refine ⟨by simp [maxLen]; omega, hs, q xs s ⟨by rw [hl], hx⟩ (hp'.mono (by omega)) hs⟩

/-! ### rows and rungs, plainly -/
theorem gI_at {xs : List Int} {i : Int} (h : 0 ≤ i) (h' : i < xs.length) : xs[i.toNat]? = some (gI xs i) := by
  have : i.toNat < xs.length := by omega
  simp [gI, this]
theorem gI_set {xs : List Int} {i j v : Int} (hi : 0 ≤ i) (hj : 0 ≤ j) (h' : i < xs.length) : gI (xs.set i.toNat v) j = if i = j then v else gI xs j := by
  unfold gI
  rw [List.getD_eq_getElem?_getD, List.getD_eq_getElem?_getD, List.getElem?_set]
  by_cases e : i = j
  · subst e
    have : i.toNat < xs.length := by omega
    simp [this]
  · rw [if_neg e, if_neg (by omega)]
theorem passL_at {n : Int} {xs : List Int} {r : Int × Int} (hr : okR n r) (hx : (xs.length : Int) = n) {i : Int} (hi : 0 ≤ i) (hi2 : i < n) :
    gI (passL xs r) i = if gI xs r.1 ≤ gI xs r.2 then gI xs i else if i = r.2 then gI xs r.1 else if i = r.1 then gI xs r.2 else gI xs i := by
  obtain ⟨h1, h2, h3⟩ := hr
  unfold passL
  split
  · rfl
  · rw [gI_set (by omega) hi (by simp; omega), gI_set h1 hi (by omega)]
    repeat' split
    all_goals first | rfl | (exfalso; omega)
theorem ext_gI {xs ys : List Int} (hl : xs.length = ys.length) (h : ∀ i : Int, 0 ≤ i → i < xs.length → gI xs i = gI ys i) : xs = ys := by
  apply List.ext_getElem? 
  intro i
  by_cases hi : i < xs.length
  · have a := gI_at (xs := xs) (i := (i : Int)) (by omega) (by omega)
    have b := gI_at (xs := ys) (i := (i : Int)) (by omega) (by omega)
    simp only [Int.toNat_natCast] at a b
    rw [a, b, h i (by omega) (by omega)]
  · rw [List.getElem?_eq_none (by omega), List.getElem?_eq_none (by omega)]
theorem gI_map {f : Int → Int} {xs : List Int} {i : Int} (h : 0 ≤ i) (h' : i < xs.length) : gI (xs.map f) i = f (gI xs i) := by
  have : i.toNat < xs.length := by omega
  simp [gI, this]
theorem passL_mono {n : Int} {xs : List Int} {r : Int × Int} {f : Int → Int} (hf : ∀ a b, a ≤ b → f a ≤ f b) (hr : okR n r) (hx : (xs.length : Int) = n) : passL (xs.map f) r = (passL xs r).map f := by
  have hr' := hr
  obtain ⟨h1, h2, h3⟩ := hr'
  refine ext_gI (by simp [passL_len]) fun i hi hi2 => ?_
  simp only [passL_len, List.length_map] at hi2
  rw [passL_at hr (by simpa using hx) hi (by omega), gI_map (xs := passL xs r) hi (by rw [passL_len]; omega), passL_at hr hx hi (by omega), gI_map (xs := xs) h1 (by omega), gI_map (xs := xs) (i := r.2) (by omega) (by omega), gI_map (xs := xs) hi (by omega)]
  by_cases q : gI xs r.1 ≤ gI xs r.2
  · rw [if_pos q, if_pos (hf _ _ q)]
  · rw [if_neg q]
    have q2 := hf (gI xs r.2) (gI xs r.1) (by omega)
    by_cases q3 : f (gI xs r.1) ≤ f (gI xs r.2)
    · rw [if_pos q3]
      have e : f (gI xs r.1) = f (gI xs r.2) := by omega
      by_cases e1 : i = r.2
      · subst e1; rw [if_pos rfl, e]
      · rw [if_neg e1]
        by_cases e2 : i = r.1
        · subst e2; rw [if_pos rfl, e]
        · rw [if_neg e2]
    · rw [if_neg q3]
      split
      · rfl
      · split <;> rfl
theorem comeL_mono {n : Int} {f : Int → Int} (hf : ∀ a b, a ≤ b → f a ≤ f b) : ∀ {rs : List (Int × Int)} {xs : List Int}, (∀ r ∈ rs, okR n r) → (xs.length : Int) = n → comeL rs (xs.map f) = (comeL rs xs).map f
  | [], _, _, _ => rfl
  | r :: t, xs, h, hx => by
    show comeL t (passL (xs.map f) r) = (comeL t (passL xs r)).map f
    rw [passL_mono hf (h r (List.mem_cons_self ..)) hx]
    exact comeL_mono hf (fun q hq => h q (List.mem_cons_of_mem _ hq)) (by rw [passL_len]; exact hx)
/-- a rising row stays -/
def risesL (xs : List Int) : Prop := ∀ i j : Int, 0 ≤ i → i < j → j < xs.length → gI xs i ≤ gI xs j
theorem pass_rises {n : Int} {xs : List Int} {r : Int × Int} (h : risesL xs) (hr : okR n r) (hx : (xs.length : Int) = n) : passL xs r = xs := by
  obtain ⟨h1, h2, h3⟩ := hr
  unfold passL
  rw [if_pos (h _ _ h1 h2 (by omega))]
theorem come_rises {n : Int} {xs : List Int} (h : risesL xs) (hx : (xs.length : Int) = n) : ∀ {rs : List (Int × Int)}, (∀ r ∈ rs, okR n r) → comeL rs xs = xs
  | [], _ => rfl
  | r :: t, hr => by
    show comeL t (passL xs r) = xs
    rw [pass_rises h (hr r (List.mem_cons_self ..)) hx]
    exact come_rises h hx fun q hq => hr q (List.mem_cons_of_mem _ hq)

/-! ### sorted rows -/
def insI (x : Int) : List Int → List Int
  | [] => [x]
  | y :: r => if x ≤ y then x :: y :: r else y :: insI x r
def sortI : List Int → List Int
  | [] => []
  | x :: r => insI x (sortI r)
theorem ins_ints (x : Int) : ∀ xs : List Int, insBy dLe (.int x) (xs.map .int) = (insI x xs).map .int
  | [] => rfl
  | y :: r => by
    show (if decide (x ≤ y) = true then _ else _) = _
    unfold insI
    by_cases h : x ≤ y
    · simp [h]
    · simp [h, ins_ints x r]
theorem sort_ints : ∀ xs : List Int, sortBy dLe (xs.map .int) = (sortI xs).map .int
  | [] => rfl
  | x :: r => by
    show insBy dLe (.int x) (sortBy dLe (r.map .int)) = _
    rw [sort_ints r, ins_ints]
    rfl
theorem insI_perm (x : Int) : ∀ xs : List Int, (insI x xs).Perm (x :: xs)
  | [] => .refl _
  | y :: r => by
    unfold insI
    split
    · exact .refl _
    · exact ((insI_perm x r).cons y).trans (.swap x y r)
theorem sortI_perm : ∀ xs : List Int, (sortI xs).Perm xs
  | [] => .refl _
  | x :: r => (insI_perm x _).trans ((sortI_perm r).cons x)
theorem insI_sorted {x : Int} : ∀ {xs : List Int}, xs.Pairwise (· ≤ ·) → (insI x xs).Pairwise (· ≤ ·)
  | [], _ => by simp [insI]
  | y :: r, h => by
    unfold insI
    rw [List.pairwise_cons] at h
    split
    · rename_i hxy
      rw [List.pairwise_cons]
      refine ⟨fun z hz => ?_, by rw [List.pairwise_cons]; exact h⟩
      rcases List.mem_cons.mp hz with rfl | hz
      · exact hxy
      · have := h.1 z hz; omega
    · rename_i hxy
      rw [List.pairwise_cons]
      refine ⟨fun z hz => ?_, insI_sorted h.2⟩
      rcases List.mem_cons.mp ((insI_perm x r).mem_iff.mp hz) with rfl | hz
      · omega
      · exact h.1 z hz
theorem sortI_sorted : ∀ xs : List Int, (sortI xs).Pairwise (· ≤ ·)
  | [] => .nil
  | x :: r => insI_sorted (sortI_sorted r)
theorem sortI_eq {xs ys : List Int} (h : xs.Perm ys) : sortI xs = sortI ys :=
  List.Perm.eq_of_pairwise (fun a b _ _ h1 h2 => by omega) (sortI_sorted xs) (sortI_sorted ys) (((sortI_perm xs).trans h).trans (sortI_perm ys).symm)
theorem sortI_rises (xs : List Int) : risesL (sortI xs) := fun i j hi hij hj => by
  have h := sortI_sorted xs
  rw [List.pairwise_iff_getElem] at h
  have a := gI_at (xs := sortI xs) (i := i) hi (by omega)
  have b := gI_at (xs := sortI xs) (i := j) (by omega) hj
  have hi' : i.toNat < (sortI xs).length := by omega
  have hj' : j.toNat < (sortI xs).length := by omega
  rw [List.getElem?_eq_getElem hi'] at a
  rw [List.getElem?_eq_getElem hj'] at b
  have := h i.toNat j.toNat hi' hj' (by omega)
  rw [← Option.some.inj a, ← Option.some.inj b]
  exact this
theorem passL_perm {n : Int} {xs : List Int} {r : Int × Int} (hr : okR n r) (hx : (xs.length : Int) = n) : (passL xs r).Perm xs := by
  obtain ⟨h1, h2, h3⟩ := hr
  unfold passL
  split
  · exact .refl _
  · rw [passL_cut (by omega) (by omega)]
    have e1 : xs = xs.take r.1.toNat ++ (gI xs r.1 :: ((xs.drop (r.1.toNat + 1)).take (r.2.toNat - (r.1.toNat + 1)) ++ (gI xs r.2 :: xs.drop (r.2.toNat + 1)))) := by
      rw [← passL_cut (xs := xs) (by omega) (by omega)]
      have s1 : xs.set r.1.toNat (gI xs r.1) = xs := by
        apply List.ext_getElem?; intro i
        rw [List.getElem?_set]
        split
        · rename_i e; subst e
          have : r.1.toNat < xs.length := by omega
          simp [this, gI]
        · rfl
      have s2 : xs.set r.2.toNat (gI xs r.2) = xs := by
        apply List.ext_getElem?; intro i
        rw [List.getElem?_set]
        split
        · rename_i e; subst e
          have : r.2.toNat < xs.length := by omega
          simp [this, gI]
        · rfl
      rw [s1, s2]
    generalize xs.take r.1.toNat = p at *
    generalize (xs.drop (r.1.toNat + 1)).take (r.2.toNat - (r.1.toNat + 1)) = m at *
    generalize xs.drop (r.2.toNat + 1) = t at *
    generalize gI xs r.1 = a at *
    generalize gI xs r.2 = b at *
    rw [e1]
    refine List.Perm.append_left p ?_
    have q1 : (b :: (m ++ a :: t)).Perm (b :: a :: (m ++ t)) := (List.perm_middle).cons b
    have q2 : (a :: (m ++ b :: t)).Perm (a :: b :: (m ++ t)) := (List.perm_middle).cons a
    exact (q1.trans (.swap a b _)).trans q2.symm
theorem come_perm {n : Int} : ∀ {rs : List (Int × Int)} {xs : List Int}, (∀ r ∈ rs, okR n r) → (xs.length : Int) = n → (comeL rs xs).Perm xs
  | [], _, _, _ => .refl _
  | r :: t, xs, h, hx => by
    have h1 := passL_perm (h r (List.mem_cons_self ..)) hx
    have h2 := come_perm (rs := t) (xs := passL xs r) (fun q hq => h q (List.mem_cons_of_mem _ hq)) (by rw [passL_len]; exact hx)
    exact h2.trans h1
theorem b_sortT {xs : List Int} (h : xs.length ≤ maxLen) : blt .sorted [dInts xs] = some (.o ((sortI xs).map .int)) := by
  have h1 : allAlike (xs.map PyData.int) = true := by
    simp only [allAlike, List.all_eq_true]
    intro x hx y hy
    obtain ⟨a, _, rfl⟩ := List.mem_map.mp hx
    obtain ⟨b, _, rfl⟩ := List.mem_map.mp hy
    simp [PySem.W.alike]
  have h2 : sortable (xs.map PyData.int) = true := by
    unfold sortable
    rw [Bool.or_eq_true]
    right
    simp
  have h3 : shalAll 19 (xs.map PyData.int) = true := sh_iff.mpr fun d hd => by
    obtain ⟨a, _, rfl⟩ := List.mem_map.mp hd
    exact sh_int
  show (if _ then _ else _) = _
  rw [h1, h2, h3, sort_ints]
  simp [h]
theorem okRow_perm {n : Int} {xs ys : List Int} (h : ys.Perm xs) (hr : okRow n xs) : okRow n ys := ⟨by rw [h.length_eq]; exact hr.len, fun x hx => hr.each x (h.mem_iff.mp hx)⟩

/-! ### the length of shown data -/
theorem len_digits {n m : Nat} (hm : 1 ≤ m) (h : n < 10 ^ m) : (Nat.toDigits 10 n).length ≤ m := by
  exact (Nat.length_toDigits_le_iff (by omega) (by omega)).mpr h
theorem str_len (s : String) : (PySem.Str.ofString s).length = s.toList.length := by
  rw [PySem.Str.ofString_eq_toList]
  show ((s.toList.map Char.toNat).toArray).size = _
  simp
theorem str_app (a b : Str) : (a ++ b).length = a.length + b.length := by
  show (a.cps ++ b.cps).size = _
  rw [Array.size_append]; rfl
theorem nat_len {n m : Nat} (hm : 1 ≤ m) (h : n < 10 ^ m) : (Nat.repr n).toList.length ≤ m := by
  rw [Nat.toList_repr]
  exact len_digits hm h
theorem int_len {i : Int} {m : Nat} (hm : 1 ≤ m) (h : bd i m) : (PyData.int i).shown.length ≤ m + 1 := by
  have e : (PyData.int i).shown = PySem.Str.ofString (toString i) := by simp [PyData.shown]
  rw [e, str_len]
  cases i with
  | ofNat n =>
    show (Nat.repr n).toList.length ≤ m + 1
    have := nat_len hm (show n < 10 ^ m from h)
    omega
  | negSucc n =>
    show ("-" ++ Nat.repr (n + 1)).toList.length ≤ m + 1
    have := nat_len hm (show n + 1 < 10 ^ m from h)
    rw [String.toList_append, List.length_append]
    have e1 : "-".toList.length = 1 := by decide
    omega
theorem piled_le {m : Nat} : ∀ {ts : List Str}, (∀ t ∈ ts, t.length ≤ m) → piled ts ≤ ts.length * (m + 2)
  | [], _ => by simp [piled_nil]
  | t :: r, h => by
    rw [piled_cons, List.length_cons, Nat.succ_mul]
    have h1 := h t (List.mem_cons_self ..)
    have h2 := piled_le (ts := r) fun x hx => h x (List.mem_cons_of_mem _ hx)
    omega
theorem shownAll_eq : ∀ xs : List D, PyData.shownAll xs = xs.map PyData.shown
  | [] => by simp [PyData.shownAll]
  | x :: r => by simp [PyData.shownAll, shownAll_eq r]
theorem tup_len {xs : List D} {m : Nat} (h : ∀ d ∈ xs, d.shown.length ≤ m) : (PyData.tuple xs).shown.length ≤ xs.length * (m + 2) + 3 := by
  have e : (PyData.tuple xs).shown = tupleText (xs.map PyData.shown) := by simp [PyData.shown, shownAll_eq]
  rw [e]
  unfold tupleText
  rw [str_app, str_app]
  have e1 : ("(" : Str).length = 1 := by decide +kernel
  have e2 : ((if (xs.map PyData.shown).length == 1 then ",)" else ")" : String) : Str).length ≤ 2 := by split <;> decide +kernel
  have e3 : (Str.join ", " (xs.map PyData.shown)).length ≤ xs.length * (m + 2) := by
    cases xs with
    | nil => exact Nat.le_trans (by decide +kernel : (Str.join ", " ([] : List Str)).length ≤ 0) (Nat.zero_le _)
    | cons x r =>
      have a := join_length_add ((x :: r).map PyData.shown) (by simp)
      have b := piled_le (m := m) (ts := (x :: r).map PyData.shown) (by simpa using h)
      simp only [List.length_map] at b
      omega
  omega
theorem showAll_iff : ∀ {xs : List D}, PyData.showableAll xs = true ↔ ∀ d ∈ xs, d.showable = true
  | [] => by simp [PyData.showableAll]
  | x :: r => by simp [PyData.showableAll, showAll_iff (xs := r)]
theorem show_tup {xs : List D} (h : ∀ d ∈ xs, d.showable = true) : (PyData.tuple xs).showable = true := by
  simp only [PyData.showable]
  exact showAll_iff.mpr h
theorem show_int {i : Int} {m : Nat} (h : bd i m) (hm : m ≤ 500) : (PyData.int i).showable = true := by
  simp only [PyData.showable, decide_eq_true_eq]
  by_cases h0 : i.natAbs = 0
  · rw [h0]; decide
  · rw [Nat.log2_lt h0]
    exact Nat.lt_of_lt_of_le (bd_mono h hm) (by decide +kernel)
/-- data whose text is short -/
structure Sho (k : Nat) (d : D) (n : Nat) : Prop where
  fl : shal k d = true
  sh : d.showable = true
  le : d.shown.length ≤ n
theorem b_repr {k : Nat} {d : D} {n : Nat} (h : Sho k d n) (hk : k ≤ 20) (hn : n ≤ 100000) : blt .repr [d] = some (.v (.str d.shown)) := by
  have h1 : flat d = true := fl_sh h.fl hk
  have h0 : rpOk d = true := by unfold rpOk; rw [h1]; rfl
  have h2 : d.shown.length ≤ maxLen := Nat.le_trans h.le hn
  simp [blt, h0, h.sh, h2]
theorem sho_int {k : Nat} {i : Int} {m : Nat} (h : bd i m) (hm : 1 ≤ m) (hm2 : m ≤ 500) : Sho k (.int i) (m + 1) := ⟨sh_int, show_int h hm2, int_len hm h⟩
theorem Sho.mono {k l : Nat} {d : D} {n m : Nat} (h : Sho k d n) (hk : k ≤ l) (hn : n ≤ m) : Sho l d m := ⟨sh_mono h.fl hk, h.sh, Nat.le_trans h.le hn⟩
theorem sho_tup {k m : Nat} {xs : List D} (h : ∀ d ∈ xs, Sho k d m) : Sho (k + 1) (.tuple xs) (xs.length * (m + 2) + 3) := ⟨sh_tup fun d hd => (h d hd).fl, show_tup fun d hd => (h d hd).sh, tup_len fun d hd => (h d hd).le⟩
theorem sho_ints {xs : List Int} {c : Nat} (h : ∀ x ∈ xs, -1000000000 ≤ x ∧ x ≤ 1000000000) (hc : xs.length ≤ c) : Sho 1 (dInts xs) (c * 13 + 3) := by
  have := sho_tup (k := 0) (m := 11) (xs := xs.map .int) fun d hd => by
    obtain ⟨x, hx, rfl⟩ := List.mem_map.mp hd
    have hb := h x hx
    exact sho_int (m := 10) (by unfold bd; omega) (by omega) (by omega)
  refine this.mono (Nat.le_refl _) ?_
  simp only [List.length_map]
  have := Nat.mul_le_mul_right 13 hc
  omega
theorem sho_rungs {n : Int} {rs : List (Int × Int)} {c : Nat} (h : ∀ r ∈ rs, okR n r) (hn : n ≤ 100) (hc : rs.length ≤ c) : Sho 2 (dRs rs) (c * 40 + 3) := by
  have := sho_tup (k := 1) (m := 33) (xs := rs.map dR) fun d hd => by
    obtain ⟨r, hr, rfl⟩ := List.mem_map.mp hd
    obtain ⟨h1, h2, h3⟩ := h r hr
    have := sho_tup (k := 0) (m := 11) (xs := [.int r.1, .int r.2]) fun d hd => by
      simp only [List.mem_cons, List.not_mem_nil, or_false] at hd
      rcases hd with rfl | rfl
      · exact sho_int (m := 10) (by unfold bd; omega) (by omega) (by omega)
      · exact sho_int (m := 10) (by unfold bd; omega) (by omega) (by omega)
    exact this.mono (Nat.le_refl _) (by simp)
  refine this.mono (Nat.le_refl _) ?_
  simp only [List.length_map]
  omega

theorem boolsMapG {α : Type} (f : α → Bool) {l : List α} : bools? (l.map fun a => PyData.bool (f a)) = some (l.map f) := by
  induction l with
  | nil => rfl
  | cons d r ih => simp [bools?, ih]
theorem b_allG {α : Type} (f : α → Bool) {l : List α} : blt .all [.list (l.map fun a => PyData.bool (f a))] = some (.v (.bool (l.all f))) := by
  simp [blt, boolsMapG]
theorem zip_ints {xs ys : List Int} : (((xs.map PyData.int).zip (ys.map PyData.int)).map fun p => PyData.tuple [p.1, p.2]) = (xs.zip ys).map fun p => PyData.tuple [.int p.1, .int p.2] := by
  rw [List.zip_map, List.map_map]
  rfl
theorem sl_one {xs : List Int} : sl3 (dInts xs) (some (.int 1)) none = some (.v (dInts (xs.drop 1))) := by
  have := cut_drop (xs := xs.map PyData.int) (i := 1) (by omega)
  simp [sl3, dInts, asInt?, this]
theorem zipOf_ints {xs ys : List Int} : zipOf (dInts xs) (dInts ys) = some ((xs.zip ys).map fun p => PyData.tuple [.int p.1, .int p.2]) := by
  simp only [zipOf, dInts]
  rw [zip_ints]
theorem b_anyG {α : Type} (f : α → Bool) {l : List α} : blt .any [.list (l.map fun a => PyData.bool (f a))] = some (.v (.bool (l.any f))) := by
  simp [blt, boolsMapG]

/-- no number less than the one ahead -/
def sortedB (xs : List Int) : Bool := (xs.zip (xs.drop 1)).all fun p => decide (p.1 ≤ p.2)
theorem sortedB_iff : ∀ {xs : List Int}, sortedB xs = true ↔ xs.Pairwise (· ≤ ·)
  | [] => by simp [sortedB]
  | [x] => by simp [sortedB]
  | x :: y :: r => by
    have ih := sortedB_iff (xs := y :: r)
    have e : sortedB (x :: y :: r) = (decide (x ≤ y) && sortedB (y :: r)) := rfl
    rw [e, Bool.and_eq_true, decide_eq_true_eq, ih, List.pairwise_cons (a := x)]
    constructor
    · rintro ⟨h1, h2⟩
      refine ⟨fun z hz => ?_, h2⟩
      rw [List.pairwise_cons] at h2
      rcases List.mem_cons.mp hz with rfl | hz
      · exact h1
      · exact Int.le_trans h1 (h2.1 z hz)
    · rintro ⟨h1, h2⟩
      exact ⟨h1 y (List.mem_cons_self ..), h2⟩
theorem sortedB_sort {xs : List Int} : sortedB xs = decide (xs = sortI xs) := by
  have key : xs.Pairwise (· ≤ ·) ↔ xs = sortI xs := by
    constructor
    · intro h
      exact List.Perm.eq_of_pairwise (fun a b _ _ h1 h2 => by omega) h (sortI_sorted xs) (sortI_perm xs).symm
    · intro h
      rw [h]; exact sortI_sorted xs
  cases h : sortedB xs with
  | true => exact (decide_eq_true (key.mp (sortedB_iff.mp h))).symm
  | false =>
    refine (decide_eq_false fun z => ?_).symm
    rw [sortedB_iff.mpr (key.mpr z)] at h
    cases h

theorem ixN_nat {n j : Nat} (h : j < n) : L2.ixN n (j : Int) = some j := by
  unfold L2.ixN
  rw [if_pos (by omega), if_pos (by omega)]
  simp
theorem erase_perm {α : Type} : ∀ {l : List α} {j : Nat} {x : α}, l[j]? = some x → (x :: l.eraseIdx j).Perm l
  | [], _, _, h => by simp at h
  | y :: l, 0, x, h => by
    simp at h
    subst h
    exact .refl _
  | y :: l, j + 1, x, h => by
    have := erase_perm (l := l) (j := j) (x := x) (by simpa using h)
    rw [List.eraseIdx_cons_succ]
    exact (List.Perm.swap y x _).trans (this.cons y)
theorem f_some {P : Nat → Option FD} {W k : Nat} {st : Sto} (h : H_u_law_some P) {n B m : Nat} {ds : List D} {Q : RV × Sto → Prop} (hm : m ≤ ds.length) (hl : ds.length ≤ 1000) (hp : PotAt n B st) (hB : B + m ≤ 10 ^ 14)
    (q : ∀ out left st', (out ++ left).Perm ds → out.length = m → PotAt n (B + m) st' → st'.length = st.length → Q (.o out, st')) : wp (evF P W (k + 2) 219 [dCell n, .list ds, .int (m : Int)] st) Q := by
  apply w_fn h.p rfl
  have hr := rangeOf_nat (n := m) (by omega)
  simp [b_u_law_some, hr, maxLen, -seqQ_nx]
  rw [seqQ_nx]
  simp [hr, -seqQ_nx]
  refine wp_loop (fun i ρ s => ∃ (out left : List D) (z : Option RV), ρ = [some (RV.v (dCell n)), some (RV.v (PyData.list ds)), some (RV.v (PyData.int (m : Int))), z, some (RV.o left), some (RV.o out)] ∧ (out ++ left).Perm ds ∧ out.length = i ∧ PotAt n (B + i) s ∧ s.length = st.length) ⟨[], ds, none, rfl, by simp, rfl, hp, rfl⟩ ?_ ?_
  · rintro i d ρ s hd ⟨out, left, z, rfl, hpm, hol, hp', hs⟩
    have hi : i < m := by
      have := (List.getElem?_eq_some_iff.mp hd).1
      simpa [rangeL] using this
    have htot : out.length + left.length = ds.length := by rw [← hpm.length_eq, List.length_append]
    simp
    refine f_take h.u_law_take (by omega) ?_ hp' (by omega) fun v s1 v1 v2 hp1 hl1 => ?_
    · exact bd_of (by omega) (by omega)
    obtain ⟨j, rfl⟩ := Int.eq_ofNat_of_zero_le v1
    have hj : j < left.length := by omega
    have hx : left[j]? = some left[j] := List.getElem?_eq_getElem hj
    simp [ixN_nat hj, hx, maxLen]
    have e := erase_perm hx
    have e2 : (out ++ left[j] :: left.eraseIdx j).Perm (out ++ left) := e.append_left out
    refine ⟨by omega, _, _, ⟨rfl, rfl⟩, ?_, by simp [hol], hp1, hl1.trans hs⟩
    simpa using e2.trans hpm
  · rintro ρ s ⟨out, left, z, rfl, hpm, hol, hp', hs⟩
    rw [rangeL_len] at hol hp'
    simp
    exact ⟨hs, q out left s hpm hol hp' hs⟩
/-- two drawn tracks, ascending: a rung -/
theorem two_sorted {a b : Int} : blt .sorted [.list [.int a, .int b]] = some (.o [.int (if a ≤ b then a else b), .int (if a ≤ b then b else a)]) := by
  have := b_sortT (xs := [a, b]) (by simp [maxLen])
  have e : blt .sorted [.list [.int a, .int b]] = blt .sorted [dInts [a, b]] := rfl
  rw [e, this]
  by_cases h : a ≤ b <;> simp [sortI, insI, h]
theorem f_two {P : Nat → Option FD} {W k : Nat} {st : Sto} (h : H_u_law_some P) {n B m : Nat} {Q : RV × Sto → Prop} (hm : 2 ≤ m) (hm2 : m ≤ 100) (hp : PotAt n B st) (hB : B + 2 ≤ 10 ^ 14)
    (q : ∀ (a b : Int) st', 0 ≤ a → a < m → 0 ≤ b → b < m → a ≠ b → PotAt n (B + 2) st' → st'.length = st.length → Q (.o [.int a, .int b], st')) : wp (evF P W (k + 2) 219 [dCell n, .list (rangeL 0 m), .int 2] st) Q := by
  refine f_some (m := 2) h (by rw [rangeL_len]; exact hm) (by rw [rangeL_len]; omega) hp hB fun out left st' hpm hol hp' hl' => ?_
  have hmem : ∀ d ∈ out, ∃ j : Nat, j < m ∧ d = .int (j : Int) := fun d hd => by
    have : d ∈ rangeL 0 m := hpm.mem_iff.mp (List.mem_append_left _ hd)
    obtain ⟨j, hj, rfl⟩ := List.mem_map.mp this
    exact ⟨j, List.mem_range.mp hj, by simp⟩
  have hnd : (rangeL 0 m).Nodup := by
    unfold rangeL
    refine List.Pairwise.map _ (fun a b hab e => ?_) List.nodup_range
    injection e with e
    omega
  have hno : out.Nodup := (List.nodup_append.mp (hpm.nodup_iff.mpr hnd)).1
  match out, hol with
  | [x, y], _ =>
    obtain ⟨a, ha, rfl⟩ := hmem x (by simp)
    obtain ⟨b, hb, rfl⟩ := hmem y (by simp)
    refine q a b st' (by omega) (by omega) (by omega) (by omega) (fun e => ?_) hp' hl'
    rw [e] at hno
    simp at hno

def rngI (n : Nat) : List Int := (List.range n).map fun (i : Nat) => (i : Int)
theorem rngI_len (n : Nat) : (rngI n).length = n := by simp [rngI]
theorem rngI_mem {n : Nat} {x : Int} : x ∈ rngI n ↔ 0 ≤ x ∧ x < n := by
  unfold rngI
  rw [List.mem_map]
  constructor
  · rintro ⟨i, hi, rfl⟩
    have := List.mem_range.mp hi
    omega
  · rintro ⟨h1, h2⟩
    exact ⟨x.toNat, List.mem_range.mpr (by omega), by omega⟩
theorem rngI_up (n : Nat) : (rngI n).Pairwise (· < ·) := by
  unfold rngI
  exact List.Pairwise.map _ (fun (a b : Nat) (h : a < b) => by show (a : Int) < b; omega) List.pairwise_lt_range
theorem rangeL_rng {n : Nat} : rangeL 0 n = (rngI n).map PyData.int := by
  simp [rangeL, rngI]
/-- some of the tracks, unlike -/
theorem f_someI {P : Nat → Option FD} {W k : Nat} {st : Sto} (h : H_u_law_some P) {n B m c : Nat} {Q : RV × Sto → Prop} (hm : c ≤ m) (hm2 : m ≤ 100) (hp : PotAt n B st) (hB : B + c ≤ 10 ^ 14)
    (q : ∀ (xs : List Int) st', xs.Nodup → (∀ x ∈ xs, 0 ≤ x ∧ x < m) → xs.length = c → PotAt n (B + c) st' → st'.length = st.length → Q (.o (xs.map .int), st')) : wp (evF P W (k + 2) 219 [dCell n, .list (rangeL 0 m), .int (c : Int)] st) Q := by
  refine f_some (m := c) h (by rw [rangeL_len]; exact hm) (by rw [rangeL_len]; omega) hp hB fun out left st' hpm hol hp' hl' => ?_
  have hmem : ∀ d ∈ out, ∃ j : Nat, j < m ∧ d = .int (j : Int) := fun d hd => by
    have : d ∈ rangeL 0 m := hpm.mem_iff.mp (List.mem_append_left _ hd)
    obtain ⟨j, hj, rfl⟩ := List.mem_map.mp this
    exact ⟨j, List.mem_range.mp hj, by simp⟩
  have hnd : (rangeL 0 m).Nodup := by
    unfold rangeL
    refine List.Pairwise.map _ (fun a b hab e => ?_) List.nodup_range
    injection e with e
    omega
  have hno : out.Nodup := (List.nodup_append.mp (hpm.nodup_iff.mpr hnd)).1
  have ex : ∃ xs : List Int, out = xs.map .int := by
    clear hpm hol hno
    induction out with
    | nil => exact ⟨[], rfl⟩
    | cons d r ih =>
      obtain ⟨xs, rfl⟩ := ih fun e he => hmem e (List.mem_cons_of_mem _ he)
      obtain ⟨j, _, rfl⟩ := hmem d (List.mem_cons_self ..)
      exact ⟨(j : Int) :: xs, rfl⟩
  obtain ⟨xs, rfl⟩ := ex
  refine q xs st' (List.Pairwise.of_map _ (fun a b hab e => hab (by rw [e])) hno) (fun x hx => ?_) (by simpa using hol) hp' hl'
  obtain ⟨j, hj, e⟩ := hmem (.int x) (List.mem_map_of_mem hx)
  injection e with e
  omega
theorem asc_len {n : Nat} {xs : List Int} (h : xs.Nodup) (hx : ∀ x ∈ xs, 0 ≤ x ∧ x < n) : xs.length ≤ n := by
  have := List.Nodup.length_le_of_subset (l₁ := xs) (l₂ := rngI n) h fun x hx' => rngI_mem.mpr (hx x hx')
  rwa [rngI_len] at this
theorem b_sortL {xs : List Int} (h : xs.length ≤ maxLen) : blt .sorted [.list (xs.map .int)] = some (.o ((sortI xs).map .int)) := b_sortT (xs := xs) h
theorem sho_lad {n : Nat} {rs : List (Int × Int)} (h : okL (n : Int) rs) : Sho 3 (dLad n rs) 10000 := by
  have h1 := h.hi
  have h0 := h.lo
  have := sho_tup (k := 2) (m := 3300) (xs := [.int (n : Int), dRs rs]) fun d hd => by
    simp only [List.mem_cons, List.not_mem_nil, or_false] at hd
    rcases hd with rfl | rfl
    · exact (sho_int (k := 2) (m := 3) (by unfold bd; omega) (by omega) (by omega)).mono (by omega) (by omega)
    · exact (sho_rungs (c := 80) h.each (by omega) h.len).mono (by omega) (by omega)
  exact this.mono (Nat.le_refl _) (by simp)
theorem sho_lot {n : Nat} {xs : List Int} (h : ∀ x ∈ xs, 0 ≤ x ∧ x < n) (hl : xs.length ≤ 100) (hn : n ≤ 100) : Sho 1 (dInts xs) 2000 := (sho_ints (c := 100) (fun x hx => by
  have := h x hx
  omega) hl).mono (by omega) (by omega)

theorem uins_mem {x z : Int} : ∀ {xs : List Int}, z ∈ uinsI x xs ↔ z = x ∨ z ∈ xs
  | [] => by simp [uinsI]
  | y :: r => by
    unfold uinsI
    split
    · simp
    · split
      · rename_i e
        subst e
        simp
      · simp only [List.mem_cons, uins_mem (xs := r)]
        constructor
        · rintro (h | h | h)
          · exact .inr (.inl h)
          · exact .inl h
          · exact .inr (.inr h)
        · rintro (h | h | h)
          · exact .inr (.inl h)
          · exact .inl h
          · exact .inr (.inr h)
theorem usort_memI {z : Int} : ∀ {xs : List Int}, z ∈ usort xs ↔ z ∈ xs
  | [] => by simp [usort]
  | y :: r => by
    show z ∈ uinsI y (usort r) ↔ _
    rw [uins_mem, usort_memI (xs := r), List.mem_cons]
theorem uins_up {x : Int} : ∀ {xs : List Int}, xs.Pairwise (· < ·) → (uinsI x xs).Pairwise (· < ·)
  | [], _ => by simp [uinsI]
  | y :: r, h => by
    unfold uinsI
    have h' := h
    rw [List.pairwise_cons] at h
    split
    · rename_i hx
      rw [List.pairwise_cons]
      refine ⟨fun z hz => ?_, h'⟩
      rcases List.mem_cons.mp hz with rfl | hz
      · exact hx
      · have := h.1 z hz; omega
    · split
      · exact h'
      · rename_i h1 h2
        rw [List.pairwise_cons]
        refine ⟨fun z hz => ?_, uins_up h.2⟩
        rcases uins_mem.mp hz with rfl | hz
        · omega
        · exact h.1 z hz
theorem usort_upI : ∀ {xs : List Int}, (usort xs).Pairwise (· < ·)
  | [] => .nil
  | _ :: _ => uins_up usort_upI
theorem up_ext {xs ys : List Int} (h : xs.Pairwise (· < ·)) (h' : ys.Pairwise (· < ·)) (m : ∀ z, z ∈ xs ↔ z ∈ ys) : xs = ys := by
  have nd : ∀ {l : List Int}, l.Pairwise (· < ·) → l.Nodup := fun {l} h => h.imp fun e z => by omega
  exact List.Perm.eq_of_pairwise (le := fun a b => a < b) (fun a b _ _ h1 h2 => by omega) h h' ((List.perm_ext_iff_of_nodup (nd h) (nd h')).mpr m)
theorem sort_up {xs : List Int} (h : xs.Nodup) : (sortI xs).Pairwise (· < ·) := by
  have hn : (sortI xs).Nodup := (sortI_perm xs).nodup_iff.mpr h
  have hs := sortI_sorted xs
  refine (List.pairwise_and_iff.mpr ⟨hs, hn⟩).imp fun e => ?_
  omega

def nearB (n j : Nat) : List (List Int) := (bitsAll n).filter fun b => decide (b.count 0 = j ∨ b.count 0 = j + 1)
def wrongF (n : Nat) (g : List Int → Int) (j : Nat) : Option (List Int) := (nearB n j).find? fun b => !decide (g b = gI (sortI b) j)
def chosenL (n : Nat) (g : List Int → Int) : List Nat := (List.range n).filter fun j => (wrongF n g j).isNone
def chosenD (n : Nat) (g : List Int → Int) : D := match chosenL n g with
  | [] => .none
  | j :: _ => .int (j : Int)
theorem find_congr {α : Type} {p q : α → Bool} : ∀ {l : List α}, (∀ a ∈ l, p a = q a) → l.find? p = l.find? q
  | [], _ => rfl
  | a :: l, h => by
    rw [List.find?_cons, List.find?_cons, h a (List.mem_cons_self ..), find_congr fun b hb => h b (List.mem_cons_of_mem _ hb)]
theorem chosenD_congr {n : Nat} {g g' : List Int → Int} (h : ∀ b ∈ bitsAll n, g b = g' b) : chosenD n g = chosenD n g' := by
  have : chosenL n g = chosenL n g' := by
    unfold chosenL
    refine List.filter_congr fun j _ => ?_
    unfold wrongF
    rw [find_congr (q := fun b => !decide (g' b = gI (sortI b) j)) fun b hb => by rw [h b (List.mem_filter.mp hb).1]]
  unfold chosenD
  rw [this]

theorem any_ints {xs : List Int} {a : Int} : ((xs.map PyData.int).any fun z => PyData.eqv z (.int a)) = decide (a ∈ xs) := by
  induction xs with
  | nil => simp
  | cons x r ih =>
    rw [List.map_cons, List.any_cons, ih, cast_eqv]
    by_cases h : x = a
    · subst h; simp
    · have h' : ¬ a = x := fun e => h e.symm
      simp [h, h']
theorem fl_lints {xs : List Int} : flat (.list (xs.map .int)) = true := fl_sh (n := 1) (sh_list fun d hd => by
  obtain ⟨a, _, rfl⟩ := List.mem_map.mp hd
  exact sh_int) (by omega)
theorem c_inL {xs : List Int} {a : Int} : cmp2 .isin (.int a) (.list (xs.map .int)) = some (.bool (decide (a ∈ xs))) := by
  simp only [cmp2, fl_int, fl_lints, Bool.and_self, if_true, any_ints]
theorem c_inT {xs : List Int} {a : Int} : cmp2 .isin (.int a) (.tuple (xs.map .int)) = some (.bool (decide (a ∈ xs))) := by
  have := fl_ints (xs := xs)
  unfold dInts at this
  simp only [cmp2, fl_int, this, Bool.and_self, if_true, any_ints]
theorem c_ninL {xs : List Int} {a : Int} : cmp2 .notin (.int a) (.list (xs.map .int)) = some (.bool (decide (a ∉ xs))) := by
  simp only [cmp2, fl_int, fl_lints, Bool.and_self, if_true, any_ints]
  simp
theorem eqv_lints {xs ys : List Int} : PyData.eqv (.list (xs.map .int)) (.list (ys.map .int)) = decide (xs = ys) := by
  rw [PyData.eqv]; exact eqvAll_ints
/-- a lot of tracks -/
structure okLot (n : Nat) (S : List Int) : Prop where
  up : S.Pairwise (· < ·)
  each : ∀ x ∈ S, 0 ≤ x ∧ x < n
  ne : S ≠ []
  len : S.length ≤ n
theorem eqv_nilT {xs : List Int} : PyData.eqv (dInts xs) (.tuple []) = xs.isEmpty := by
  cases xs <;> rfl
theorem count_eqv {xs : List Int} {a : Int} : ((xs.map PyData.int).countP fun y => PyData.eqv y (.int a)) = xs.count a := by
  rw [List.countP_map, List.count]
  congr 1
theorem c_cnt {xs : List Int} {a : Int} : cnt2 (dInts xs) (.int a) = some (.int (xs.count a : Nat)) := by
  have h1 : shalAll 19 (xs.map PyData.int) = true := sh_iff.mpr fun d hd => by
    obtain ⟨x, _, rfl⟩ := List.mem_map.mp hd
    exact sh_int
  simp only [dInts, cnt2, h1, fl_int, Bool.and_self, if_true, count_eqv]

theorem f_near_bits {P : Nat → Option FD} {W k : Nat} {st : Sto} (h : H_near_bits P) {n j : Nat} (hn : n ≤ 8) : evF P W (k + 2) 538 [.int (n : Int), .int (j : Int)] st = some (.o ((nearB n j).map dInts), st) := by
  apply eq_of_wp
  apply w_fn h.p rfl
  have e1 := f_bits_of8 (W := W) (k := k) (st := st) h.bits_of hn
  have h2m : 2 ≤ maxLen := by simp [maxLen]
  simp [b_near_bits, e1]
  refine wp_compIf (e := dInts) (p := fun b => decide (b.count 0 = j ∨ b.count 0 = j + 1)) (f := dInts) (fun b hb => ?_) ?_
  · have e2 : cmp2 .isin (.int (b.count 0 : Nat)) (.tuple [.int (j : Int), .int ((j : Int) + 1)]) = some (.bool (decide (b.count 0 = j ∨ b.count 0 = j + 1))) := by
      have := c_inT (xs := [(j : Int), (j : Int) + 1]) (a := (b.count 0 : Nat))
      simp only [List.map_cons, List.map_nil] at this
      rw [this]
      congr 2
      simp only [List.mem_cons, List.not_mem_nil, or_false]
      exact decide_eq_decide.mpr (by omega)
    simp [c_cnt, h2m, e2]
    by_cases q : b.count 0 = j ∨ b.count 0 = j + 1
    · simp only [q]
      simp
      omega
    · simp only [q]
      simp
      omega
  · have : (nearB n j).length ≤ 256 := by
      refine Nat.le_trans (List.length_filter_le _ _) ?_
      rw [bitsAll_len]
      exact pow_le8 hn
    have this' : ((nearB n j).map dInts).length ≤ maxLen := by rw [List.length_map]; simp only [maxLen]; omega
    refine ⟨this', ?_⟩
    exact ⟨rfl, rfl, rfl⟩
theorem f_is_right {P : Nat → Option FD} {W k : Nat} {st : Sto} (h : H_is_right P) {n j : Nat} {rs : List (Int × Int)} {t : Int} {b : List Int} (hl : okL (n : Int) rs) (ht : 0 ≤ t) (ht2 : t < n) (hj : j < n) (hb : b.length = n) :
    evF P W (k + 3) 470 [dLad n rs, .int t, .int (j : Int), dInts b] st = some (.v (.bool (decide (gI (comeL rs b) t = gI (sortI b) j))), st) := by
  apply eq_of_wp
  apply w_fn h.p rfl
  have hh := hl.hi
  have e1 := f_come_out (W := W) (k := k) (st := st) h.come_out (xs := b) hl.each (by omega) (by omega)
  have e2 : evF P W (k + 2) 289 [dInts b, .int (j : Int)] st = some (.v (.int (gI (sortI b) j)), st) := by
    apply eq_of_wp
    apply w_fn h.bit_at.p rfl
    have e3 := b_sortT (xs := b) (by simp [maxLen]; omega)
    have e4 : L2.atI ((sortI b).map PyData.int) (j : Int) = some (.int (gI (sortI b) j)) := atI_ints (by omega) (by rw [(sortI_perm b).length_eq]; omega)
    simp [b_bit_at, e3, e4]
  have e5 : L2.atI ((comeL rs b).map PyData.int) t = some (.int (gI (comeL rs b) t)) := atI_ints ht (by rw [comeL_len]; omega)
  have e6 : sub2 (dInts (comeL rs b)) (.int t) = some (.int (gI (comeL rs b) t)) := e5
  simp [b_is_right, e1, e2, e6, c_eq, cast_eqv]
def optD : Option (List Int) → D
  | none => .none
  | some b => dInts b
theorem f_first_wrong_choosing {P : Nat → Option FD} {W k : Nat} {st : Sto} (h : H_first_wrong_choosing P) {n j : Nat} {rs : List (Int × Int)} {t : Int} (hl : okL (n : Int) rs) (hn : n ≤ 8) (ht : 0 ≤ t) (ht2 : t < n) (hj : j < n) :
    evF P W (k + 4) 747 [dLad n rs, .int t, .int (j : Int)] st = some (.v (optD (wrongF n (fun b => gI (comeL rs b) t) j)), st) := by
  apply eq_of_wp
  apply w_fn h.p rfl
  have e1 := f_near_bits (W := W) (k := k + 1) (st := st) h.near_bits (j := j) hn
  simp [b_first_wrong_choosing, e1, -seqQ_nx]
  have hmem : ∀ b ∈ nearB n j, b.length = n := fun b hb => bits_len (List.mem_filter.mp hb).1
  unfold wrongF
  generalize nearB n j = l at *
  refine wp_loop (fun i ρ s => s = st ∧ (l.find? fun b => !decide (gI (comeL rs b) t = gI (sortI b) j)) = ((l.drop i).find? fun b => !decide (gI (comeL rs b) t = gI (sortI b) j)) ∧ ∃ x : Option RV, ρ = [some (.v (dLad n rs)), some (.v (.int t)), some (.v (.int (j : Int))), x]) ⟨rfl, rfl, none, rfl⟩ ?_ ?_
  · rintro i d ρ s hd ⟨rfl, he, x, rfl⟩
    obtain ⟨b, hb, rfl⟩ := map_at hd
    have hi := (List.getElem?_eq_some_iff.mp hb).1
    have hdr : l.drop i = b :: l.drop (i + 1) := by
      rw [List.drop_eq_getElem_cons hi]
      rw [(List.getElem?_eq_some_iff.mp hb).2]
    rw [hdr, List.find?_cons] at he
    have e2 := f_is_right (W := W) (k := k) (st := s) h.is_right hl ht ht2 hj (hmem b (List.mem_of_getElem? hb))
    by_cases q : gI (comeL rs b) t = gI (sortI b) j
    · simp [q] at he
      simp [e2, q, he]
    · simp [q] at he
      simp [e2, q, he, optD]
  · rintro ρ s ⟨rfl, he, x, rfl⟩
    rw [List.length_map, List.drop_length] at he
    rw [seqQ_nx]
    simp [he, optD]
theorem f_chosen_on {P : Nat → Option FD} {W k : Nat} {st : Sto} (h : H_chosen_on P) {n : Nat} {rs : List (Int × Int)} {t : Int} (hl : okL (n : Int) rs) (hn : n ≤ 8) (ht : 0 ≤ t) (ht2 : t < n) :
    evF P W (k + 7) 353 [dLad n rs, .int t] st = some (.v (chosenD n fun b => gI (comeL rs b) t), st) := by
  apply eq_of_wp
  apply w_fn h.p rfl
  have e1 := f_check_ladder (W := W) (k := k) (st := st) h.check_ladder hl
  have e2 : evF P W (k + 6) 341 [dLad n rs, .int t] st = some (.v .none, st) := by
    apply eq_of_wp
    apply w_fn h.check_track.p rfl
    have e3 := f_is_between (W := W) (k := k + 3) (st := st) h.check_track.is_between (d := .int t) (lo := 0) (hi := (n : Int) - 1) rfl
    have b1 : btw 0 ((n : Int) - 1) (.int t) = true := by simp; omega
    rw [b1] at e3
    simp [b_check_track, e3]
  have e4 : evF P W (k + 6) 352 [dLad n rs, .int t] st = some (.v (chosenD n fun b => gI (comeL rs b) t), st) := by
    apply eq_of_wp
    apply w_fn h.chosen.p rfl
    have hr := rangeOf_nat (n := n) (by omega)
    simp [b_chosen, hr, rangeL, -seqQ_nx]
    refine wp_compIf (e := fun i : Nat => PyData.int (i : Int)) (p := fun j => (wrongF n (fun b => gI (comeL rs b) t) j).isNone) (f := fun i : Nat => PyData.int (i : Int)) (fun j hj => ?_) ?_
    · have e5 := f_first_wrong_choosing (W := W) (k := k + 1) (st := st) h.chosen.first_wrong_choosing hl hn ht ht2 (List.mem_range.mp hj)
      have e6 : cmp2 .is (optD (wrongF n (fun b => gI (comeL rs b) t) j)) .none = some (.bool (wrongF n (fun b => gI (comeL rs b) t) j).isNone) := by
        cases wrongF n (fun b => gI (comeL rs b) t) j <;> rfl
      simp [e5, e6]
    · have hlen : ((List.range n).filter fun j => (wrongF n (fun b => gI (comeL rs b) t) j).isNone).length ≤ n := Nat.le_trans (List.length_filter_le _ _) (by simp)
      have hcd : chosenD n (fun b => gI (comeL rs b) t) = match (List.range n).filter fun j => (wrongF n (fun b => gI (comeL rs b) t) j).isNone with | [] => .none | j :: _ => .int (j : Int) := rfl
      rw [hcd]
      generalize ((List.range n).filter fun j => (wrongF n (fun b => gI (comeL rs b) t) j).isNone) = l at *
      have hlm : l.length ≤ maxLen := by simp [maxLen]; omega
      refine ⟨by simpa using hlm, ?_⟩
      rw [seqQ_nx]
      have fl1 : flat (.list (l.map fun i : Nat => PyData.int (i : Int))) = true := fl_sh (n := 1) (sh_list fun d hd => by
        obtain ⟨a, _, rfl⟩ := List.mem_map.mp hd
        exact sh_int) (by omega)
      have fl0 : flat (.list []) = true := by rfl
      have eq0 : PyData.eqv (.list (l.map fun i : Nat => PyData.int (i : Int))) (.list []) = l.isEmpty := by cases l <;> rfl
      cases l with
      | nil =>
        have eq00 : PyData.eqv (.list []) (.list []) = true := by rfl
        simp [c_ne, fl0, eq00, maxLen]
      | cons j r => simp only [List.map_cons] at fl1 eq0; simp [c_ne, fl1, fl0, eq0, maxLen]
  simp [b_chosen_on, e1, e2, e4]

/-! ### pruning, from the last rung -/
def grow (S : List Int) (r : Int × Int) : List Int := S ++ [r.1, r.2].filter fun t => !decide (t ∈ S)
def pk : List (Int × Int) → List Int → List (Int × Int)
  | [], _ => []
  | r :: l, S => if r.1 ∈ S ∨ r.2 ∈ S then r :: pk l (grow S r) else pk l S
def psn : List (Int × Int) → List Int → List Int
  | [], S => S
  | r :: l, S => if r.1 ∈ S ∨ r.2 ∈ S then psn l (grow S r) else psn l S
theorem pk_cons {r : Int × Int} {l : List (Int × Int)} {S : List Int} : pk (r :: l) S = if r.1 ∈ S ∨ r.2 ∈ S then r :: pk l (grow S r) else pk l S := rfl
theorem psn_cons {r : Int × Int} {l : List (Int × Int)} {S : List Int} : psn (r :: l) S = if r.1 ∈ S ∨ r.2 ∈ S then psn l (grow S r) else psn l S := rfl
theorem grow_mem {S : List Int} {r : Int × Int} {x : Int} : x ∈ grow S r ↔ x ∈ S ∨ x = r.1 ∨ x = r.2 := by
  unfold grow
  rw [List.mem_append, List.mem_filter]
  simp only [List.mem_cons, List.not_mem_nil, or_false, Bool.not_eq_true', decide_eq_false_iff_not]
  constructor
  · rintro (h | ⟨h, _⟩)
    · exact .inl h
    · exact .inr h
  · rintro (h | h)
    · exact .inl h
    · by_cases q : x ∈ S
      · exact .inl q
      · exact .inr ⟨h, q⟩
theorem grow_nd {S : List Int} {r : Int × Int} (h : S.Nodup) (hr : r.1 ≠ r.2) : (grow S r).Nodup := by
  unfold grow
  rw [List.nodup_append]
  refine ⟨h, (List.Nodup.sublist List.filter_sublist (by simp [hr])), fun a ha b hb => ?_⟩
  have := (List.mem_filter.mp hb).2
  simp only [Bool.not_eq_true', decide_eq_false_iff_not] at this
  intro e
  exact this (e ▸ ha)
theorem psn_nd : ∀ {l : List (Int × Int)} {S : List Int}, S.Nodup → (∀ r ∈ l, r.1 ≠ r.2) → (psn l S).Nodup
  | [], _, h, _ => h
  | r :: l, S, h, hr => by
    unfold psn
    split
    · exact psn_nd (grow_nd h (hr r (List.mem_cons_self ..))) fun q hq => hr q (List.mem_cons_of_mem _ hq)
    · exact psn_nd h fun q hq => hr q (List.mem_cons_of_mem _ hq)
theorem pk_sub : ∀ {l : List (Int × Int)} {S : List Int} {r : Int × Int}, r ∈ pk l S → r ∈ l
  | [], _, _, h => h
  | q :: l, S, r, h => by
    unfold pk at h
    split at h
    · rcases List.mem_cons.mp h with rfl | h
      · exact List.mem_cons_self ..
      · exact List.mem_cons_of_mem _ (pk_sub h)
    · exact List.mem_cons_of_mem _ (pk_sub h)
theorem pk_len : ∀ {l : List (Int × Int)} {S : List Int}, (pk l S).length ≤ l.length
  | [], _ => Nat.le_refl _
  | q :: l, S => by
    unfold pk
    split
    · exact Nat.succ_le_succ pk_len
    · exact Nat.le_succ_of_le pk_len
theorem psn_mem : ∀ {l : List (Int × Int)} {S : List Int} {x : Int}, x ∈ psn l S → x ∈ S ∨ ∃ r ∈ l, x = r.1 ∨ x = r.2
  | [], _, _, h => .inl h
  | q :: l, S, x, h => by
    unfold psn at h
    split at h
    · rcases psn_mem h with h | ⟨r, hr, e⟩
      · rcases grow_mem.mp h with h | h
        · exact .inl h
        · exact .inr ⟨q, List.mem_cons_self .., h⟩
      · exact .inr ⟨r, List.mem_cons_of_mem _ hr, e⟩
    · rcases psn_mem h with h | ⟨r, hr, e⟩
      · exact .inl h
      · exact .inr ⟨r, List.mem_cons_of_mem _ hr, e⟩
theorem pk_idem : ∀ {l : List (Int × Int)} {S : List Int}, pk (pk l S) S = pk l S ∧ psn (pk l S) S = psn l S
  | [], _ => ⟨rfl, rfl⟩
  | q :: l, S => by
    rw [pk_cons, psn_cons]
    by_cases h : q.1 ∈ S ∨ q.2 ∈ S
    · obtain ⟨h1, h2⟩ := pk_idem (l := l) (S := grow S q)
      rw [if_pos h, if_pos h, pk_cons, psn_cons, if_pos h, if_pos h, h1, h2]
      exact ⟨rfl, rfl⟩
    · rw [if_neg h, if_neg h]
      exact pk_idem
theorem pk_all : ∀ {l : List (Int × Int)} {S : List Int}, (∀ r ∈ l, r.1 ∈ S) → pk l S = l
  | [], _, _ => rfl
  | q :: l, S, h => by
    rw [pk_cons, if_pos (.inl (h q (List.mem_cons_self ..))), pk_all fun r hr => grow_mem.mpr (.inl (h r (List.mem_cons_of_mem _ hr)))]
theorem come_snoc {l : List (Int × Int)} {r : Int × Int} {xs : List Int} : comeL (l ++ [r]) xs = passL (comeL l xs) r := by
  unfold comeL
  rw [List.foldl_append]
  rfl
/-- on what is watched the same comes out -/
theorem pk_come {n : Int} : ∀ {l : List (Int × Int)} {S : List Int} {xs : List Int}, (∀ r ∈ l, okR n r) → (xs.length : Int) = n → ∀ t ∈ S, 0 ≤ t → t < n → gI (comeL (pk l S).reverse xs) t = gI (comeL l.reverse xs) t
  | [], _, _, _, _, _, _, _, _ => rfl
  | r :: l, S, xs, hl, hx, t, ht, h0, h1 => by
    have hr := hl r (List.mem_cons_self ..)
    have hl' : ∀ q ∈ l, okR n q := fun q hq => hl q (List.mem_cons_of_mem _ hq)
    obtain ⟨r1, r2, r3⟩ := id hr
    rw [pk_cons, List.reverse_cons, come_snoc]
    have len : ∀ ys : List (Int × Int), ((comeL ys xs).length : Int) = n := fun ys => by rw [comeL_len]; exact hx
    split
    · rw [List.reverse_cons, come_snoc, passL_at hr (len _) h0 h1, passL_at hr (len _) h0 h1]
      have k : ∀ u, u ∈ grow S r → 0 ≤ u → u < n → gI (comeL (pk l (grow S r)).reverse xs) u = gI (comeL l.reverse xs) u := fun u hu => pk_come hl' hx u hu
      rw [k r.1 (grow_mem.mpr (.inr (.inl rfl))) (by omega) (by omega), k r.2 (grow_mem.mpr (.inr (.inr rfl))) (by omega) (by omega), k t (grow_mem.mpr (.inl ht)) h0 h1]
    · rename_i h
      rw [passL_at hr (len _) h0 h1, pk_come hl' hx t ht h0 h1]
      have e1 : t ≠ r.1 := fun e => h (.inl (e ▸ ht))
      have e2 : t ≠ r.2 := fun e => h (.inr (e ▸ ht))
      rw [if_neg e1, if_neg e2]
      split <;> rfl
/-! the law's own: sorted lots of tracks -/
/-! ### numbers chosen -/

/-- strictly rising -/
def ascB (xs : List Int) : Bool := (xs.zip (xs.drop 1)).all fun p => decide (p.1 < p.2)
theorem ascB_iff : ∀ {xs : List Int}, ascB xs = true ↔ xs.Pairwise (· < ·)
  | [] => by simp [ascB]
  | [x] => by simp [ascB]
  | x :: y :: r => by
    have ih := ascB_iff (xs := y :: r)
    have e : ascB (x :: y :: r) = (decide (x < y) && ascB (y :: r)) := rfl
    rw [e, Bool.and_eq_true, decide_eq_true_eq, ih, List.pairwise_cons (a := x)]
    constructor
    · rintro ⟨h1, h2⟩
      refine ⟨fun z hz => ?_, h2⟩
      rw [List.pairwise_cons] at h2
      rcases List.mem_cons.mp hz with rfl | hz
      · exact h1
      · exact Int.lt_trans h1 (h2.1 z hz)
    · rintro ⟨h1, h2⟩
      exact ⟨h1 y (List.mem_cons_self ..), h2⟩
theorem f_is_ascending {P : Nat → Option FD} {W k : Nat} {st : Sto} (h : H_is_ascending P) {xs : List Int} (hx : xs.length ≤ 100) : evF P W (k + 1) 448 [dInts xs] st = some (.v (.bool (ascB xs)), st) := by
  apply eq_of_wp
  apply w_fn h.p rfl
  simp [b_is_ascending, sl_one, zipOf_ints, -List.drop_one]
  refine wp_comp (f := fun p => .bool (decide (p.1 < p.2))) (fun p hp => ?_) ?_
  · simp
  · have hl : (xs.zip (xs.drop 1)).length ≤ maxLen := by simp [maxLen]; omega
    refine ⟨by simpa using hl, ?_⟩
    show wp (blt .all [.list ((xs.zip (xs.drop 1)).map fun p => .bool (decide (p.1 < p.2)))]) _
    rw [b_allG]
    exact wp_some.mpr ⟨rfl, rfl, rfl⟩
theorem f_check_lot {P : Nat → Option FD} {W k : Nat} {st : Sto} (h : H_check_lot P) {n : Nat} {S : List Int} (hn : n ≤ 10) (hS : okLot n S) : evF P W (k + 5) 313 [.int (n : Int), dInts S] st = some (.v .none, st) := by
  apply eq_of_wp
  apply w_fn h.p rfl
  have hl := hS.len
  have e1 := f_are_between (W := W) (k := k) (st := st) h.is_lot_of.are_between (d := dInts S) (lo := 0) (hi := (n : Int) - 1) (by simp [dInts, maxLen]; omega)
  have b1 : abtw 0 ((n : Int) - 1) (dInts S) = true := by
    simp only [dInts, abtw_t, List.all_eq_true, List.mem_map]
    rintro _ ⟨x, hx, rfl⟩
    have := hS.each x hx
    simp
    omega
  rw [b1] at e1
  have e2 := f_is_ascending (W := W) (k := k + 2) (st := st) h.is_lot_of.is_ascending (xs := S) (by omega)
  rw [ascB_iff.mpr hS.up] at e2
  have e3 : evF P W (k + 4) 459 [.int (n : Int), dInts S] st = some (.v (.bool true), st) := by
    apply eq_of_wp
    apply w_fn h.is_lot_of.p rfl
    have hne := hS.ne
    have fl0 : flat (.tuple []) = true := by rfl
    have hh : S.isEmpty = false := by cases S <;> simp_all
    simp [b_is_lot_of, e1, e2, c_ne, fl_ints, fl0, eqv_nilT, hh]
  simp [b_check_lot, e3]
theorem f_kept_for {P : Nat → Option FD} {W k : Nat} {st : Sto} (h : H_kept_for P) {n : Nat} {rs : List (Int × Int)} {S : List Int} (hn : n ≤ 10) (hl : okL (n : Int) rs) (hS : okLot n S) :
    evF P W (k + 1) 486 [dLad n rs, dInts S] st = some (.v (.tuple [dRs (pk rs.reverse S).reverse, .list ((sortI (psn rs.reverse S)).map .int)]), st) := by
  apply eq_of_wp
  apply w_fn h.p rfl
  have hnd : S.Nodup := hS.up.imp fun e z => by omega
  simp [b_kept_for, -seqQ_nx]
  rw [seqQ_nx]
  simp [-seqQ_nx]
  rw [← List.map_reverse]
  have hll : rs.reverse.length ≤ 80 := by rw [List.length_reverse]; exact hl.len
  have hle : ∀ r ∈ rs.reverse, okR (n : Int) r := fun r hr => hl.each r (List.mem_reverse.mp hr)
  have hS0 := hS.len
  generalize rs.reverse = l at *
  refine wp_loop (fun i ρ s => s = st ∧ ∃ (acc : List (Int × Int)) (T : List Int) (x y z : Option RV), ρ = [some (.v (dLad n rs)), some (.v (dInts S)), some (.o (acc.map dR)), some (.o (T.map .int)), x, y, z] ∧ pk l S = acc ++ pk (l.drop i) T ∧ psn l S = psn (l.drop i) T ∧ acc.length ≤ i ∧ T.length ≤ S.length + 2 * i) ⟨rfl, [], S, none, none, none, rfl, rfl, rfl, Nat.le_refl _, by omega⟩ ?_ ?_
  · rintro i d ρ s hd ⟨rfl, acc, T, x, y, z, rfl, h1, h2, h3, h4⟩
    obtain ⟨r, hr, rfl⟩ := map_at hd
    have hi := (List.getElem?_eq_some_iff.mp hr).1
    have hdr : l.drop i = r :: l.drop (i + 1) := by
      rw [List.drop_eq_getElem_cons hi]
      rw [(List.getElem?_eq_some_iff.mp hr).2]
    rw [hdr, pk_cons] at h1
    rw [hdr, psn_cons] at h2
    have fin : ∀ T', T' = grow T r → (r.1 ∈ T ∨ r.2 ∈ T) → psn l S = psn (l.drop (i + 1)) T' := fun T' e q => by
      rw [e, h2, if_pos q]
    by_cases q : r.1 ∈ T ∨ r.2 ∈ T
    · rw [if_pos q] at h1 h2
      have body : wp (mapM (itemF (evF P W k) [6] (.nm 6) (.cons false (.cmp .notin (.var 6) (.peek 3)) .nil) (.var 6) [some (.v (dLad n rs)), some (.v (dInts S)), some (.o (acc.map dR ++ [.tuple [.int r.1, .int r.2]])), some (.o (T.map .int)), some (.v (.int r.1)), some (.v (.int r.2)), z]) [.int r.1, .int r.2] s)
          (fun p => p = (([r.1, r.2].filter fun t => !decide (t ∈ T)).map .int, s)) := by
        refine wp_compIf (e := PyData.int) (l := [r.1, r.2]) (p := fun t => !decide (t ∈ T)) (f := PyData.int) (fun t ht => ?_) rfl
        by_cases m : t ∈ T <;> simp [c_ninL, m]
      have hT : T.map PyData.int ++ ([r.1, r.2].filter fun t => !decide (t ∈ T)).map .int = (grow T r).map PyData.int := by
        unfold grow; rw [List.map_append]
      have hlen2 : ([r.1, r.2].filter fun t => !decide (t ∈ T)).length ≤ 2 := List.length_filter_le _ _
      have ml : acc.length < maxLen := by simp [maxLen]; omega
      have m2 : 2 ≤ maxLen := by simp [maxLen]
      have main : ∀ Q : Fl → Prop, Q (.nx [some (.v (dLad n rs)), some (.v (dInts S)), some (.o ((acc ++ [r]).map dR)), some (.o ((grow T r).map .int)), some (.v (.int r.1)), some (.v (.int r.2)), z] s) → wp (evSs (evF P W k) W (.cons (.ext 3 (.comp [6] (.nm 6) (.seq (.tup (.cons false (.var 4) (.cons false (.var 5) .nil)))) (.cons false (.cmp .notin (.var 6) (.peek 3)) .nil) (.var 6))) .nil) [some (.v (dLad n rs)), some (.v (dInts S)), some (.o (acc.map dR ++ [.tuple [.int r.1, .int r.2]])), some (.o (T.map .int)), some (.v (.int r.1)), some (.v (.int r.2)), z] s) Q := fun Q hQ => by
        simp [m2]
        refine wp_mono body ?_
        rintro _ rfl
        dsimp only
        rw [hT, List.length_map]
        refine ⟨by simp only [maxLen]; omega, by simp only [maxLen]; omega, ?_⟩
        simpa [dR] using hQ
      have res : ∃ (acc' : List (Int × Int)) (T' : List Int), (∃ (x y z' : Option RV), [some (RV.v (dLad n rs)), some (.v (dInts S)), some (.o ((acc ++ [r]).map dR)), some (.o ((grow T r).map .int)), some (.v (.int r.1)), some (.v (.int r.2)), z] = [some (.v (dLad n rs)), some (.v (dInts S)), some (.o (acc'.map dR)), some (.o (T'.map .int)), x, y, z']) ∧ pk l S = acc' ++ pk (l.drop (i + 1)) T' ∧ psn l S = psn (l.drop (i + 1)) T' ∧ acc'.length ≤ i + 1 ∧ T'.length ≤ S.length + 2 * (i + 1) :=
        ⟨acc ++ [r], grow T r, ⟨_, _, _, rfl⟩, by rw [h1]; simp, h2, by simp; omega, by unfold grow; rw [List.length_append]; omega⟩
      have dRe : dR r = .tuple [.int r.1, .int r.2] := rfl
      rw [dRe]
      rcases q with q1 | q1
      · simp [c_inL, q1, m2, ml, -seqQ_nx]
        rw [seqQ_nx]
        exact main _ (by rw [seqQ_nx]; simp only [wSs_nil]; exact ⟨trivial, res⟩)
      · by_cases q2 : r.1 ∈ T
        · simp [c_inL, q2, m2, ml, -seqQ_nx]
          rw [seqQ_nx]
          exact main _ (by rw [seqQ_nx]; simp only [wSs_nil]; exact ⟨trivial, res⟩)
        · simp [c_inL, q1, q2, m2, ml, -seqQ_nx]
          rw [seqQ_nx]
          exact main _ (by rw [seqQ_nx]; simp only [wSs_nil]; exact ⟨trivial, res⟩)
    · rw [if_neg q] at h1 h2
      have q1 : r.1 ∉ T := fun z => q (.inl z)
      have q2 : r.2 ∉ T := fun z => q (.inr z)
      simp [dR, c_inL, q1, q2]
      exact ⟨acc, T, ⟨rfl, rfl⟩, h1, h2, by omega, by omega⟩
  · rintro ρ s ⟨rfl, acc, T, x, y, z, rfl, h1, h2, h3, h4⟩
    rw [List.length_map, List.drop_length] at h1 h2
    rw [List.length_map] at h3 h4
    have h1' : pk l S = acc := by rw [h1]; simp [pk]
    have h2' : psn l S = T := h2
    rw [seqQ_nx]
    have bs : blt .sorted [.list (T.map .int)] = some (.o ((sortI T).map .int)) := b_sortT (xs := T) (by simp [maxLen]; omega)
    simp [bs, maxLen, dRs, h1', h2', List.map_reverse]
theorem f_pruned {P : Nat → Option FD} {W k : Nat} {st : Sto} (h : H_pruned P) {n : Nat} {rs : List (Int × Int)} {S : List Int} (hn : n ≤ 10) (hl : okL (n : Int) rs) (hS : okLot n S) :
    evF P W (k + 7) 572 [dLad n rs, dInts S] st = some (.v (dLad n (pk rs.reverse S).reverse), st) := by
  apply eq_of_wp
  apply w_fn h.p rfl
  have e1 := f_check_ladder (W := W) (k := k) (st := st) h.check_ladder hl
  have e2 := f_check_lot (W := W) (k := k + 1) (st := st) h.check_lot hn hS
  have e3 := f_kept_for (W := W) (k := k + 5) (st := st) h.kept_for hn hl hS
  simp [b_pruned, e1, e2, e3, maxLen]
  rfl
theorem f_watched {P : Nat → Option FD} {W k : Nat} {st : Sto} (h : H_watched P) {n : Nat} {rs : List (Int × Int)} {S : List Int} (hn : n ≤ 10) (hl : okL (n : Int) rs) (hS : okLot n S) :
    evF P W (k + 7) 712 [dLad n rs, dInts S] st = some (.v (dInts (sortI (psn rs.reverse S))), st) := by
  apply eq_of_wp
  apply w_fn h.p rfl
  have e1 := f_check_ladder (W := W) (k := k) (st := st) h.check_ladder hl
  have e2 := f_check_lot (W := W) (k := k + 1) (st := st) h.check_lot hn hS
  have e3 := f_kept_for (W := W) (k := k + 5) (st := st) h.kept_for hn hl hS
  simp [b_watched, e1, e2, e3]
  rfl
theorem okL_pk {n : Nat} {rs : List (Int × Int)} {S : List Int} (hl : okL (n : Int) rs) : okL (n : Int) (pk rs.reverse S).reverse := ⟨hl.lo, hl.hi, by
  rw [List.length_reverse]
  exact Nat.le_trans pk_len (by rw [List.length_reverse]; exact hl.len), fun r hr => hl.each r (List.mem_reverse.mp (pk_sub (List.mem_reverse.mp hr)))⟩
theorem okLot_sort {m : Nat} {xs : List Int} (h : xs.Nodup) (hx : ∀ x ∈ xs, 0 ≤ x ∧ x < m) (hl : 1 ≤ xs.length) : okLot m (sortI xs) := ⟨sort_up h, fun x hx' => hx x ((sortI_perm xs).mem_iff.mp hx'), fun e => by
  have := (sortI_perm xs).length_eq
  rw [e] at this
  simp at this
  omega, by rw [(sortI_perm xs).length_eq]; exact asc_len h hx⟩
theorem okLot_one {m : Nat} {t : Int} (h : 0 ≤ t) (h' : t < m) : okLot m [t] := ⟨by simp, fun x hx => by
  rw [List.mem_singleton] at hx; omega, by simp, by simp; omega⟩
theorem okLot_all {m : Nat} (h : 1 ≤ m) : okLot m (rngI m) := ⟨rngI_up m, fun x hx => rngI_mem.mp hx, fun e => by
  have := rngI_len m
  rw [e] at this
  simp at this
  omega, by rw [rngI_len]; exact Nat.le_refl _⟩
theorem sset_ints {xs : List Int} (h : xs.length < 60) : sset1 (.list (xs.map .int)) = some ((usort xs).map .int) := by
  simp only [sset1, sum_bd, h, if_true]
/-- the same comes out at the lot, as a list -/
theorem lots_eq {n : Nat} {rs : List (Int × Int)} {S xs : List Int} (hl : ∀ r ∈ rs, okR (n : Int) r) (hx : (xs.length : Int) = n) (hS : ∀ x ∈ S, 0 ≤ x ∧ x < n) : S.map (fun t => gI (comeL (pk rs.reverse S).reverse xs) t) = S.map fun t => gI (comeL rs xs) t := by
  refine List.map_congr_left fun t ht => ?_
  have := pk_come (l := rs.reverse) (S := S) (fun r hr => hl r (List.mem_reverse.mp hr)) hx t ht (hS t ht).1 (hS t ht).2
  rw [List.reverse_reverse] at this
  exact this
theorem lad_eqv {n : Int} {rs : List (Int × Int)} (h : flat (dLad n rs) = true) : PyData.eqv (dLad n rs) (dLad n rs) = true := eqv_same h
theorem fl_chosen {n : Nat} {g : List Int → Int} : flat (chosenD n g) = true := by
  unfold chosenD
  split
  · rfl
  · exact fl_int
theorem chosen_pk {n : Nat} {rs : List (Int × Int)} {S : List Int} {t : Int} (hl : ∀ r ∈ rs, okR (n : Int) r) (ht : t ∈ S) (h0 : 0 ≤ t) (h1 : t < n) : chosenD n (fun b => gI (comeL (pk rs.reverse S).reverse b) t) = chosenD n fun b => gI (comeL rs b) t := chosenD_congr fun b hb => by
  have := pk_come (l := rs.reverse) (S := S) (xs := b) (n := n) (fun r hr => hl r (List.mem_reverse.mp hr)) (by rw [bits_len hb]) t ht h0 h1
  rw [List.reverse_reverse] at this
  exact this

theorem wp_compD {F : FT} {own : List Nat} {tg : Tg} {ifs : CEs} {elt : CE} {ρ : Rho} {st : Sto} {l : List D} {Q : List D × Sto → Prop} (f : D → D) (h : ∀ a ∈ l, wp (itemF F own tg ifs elt ρ a st) fun p => p = ([f a], st)) (hq : Q (l.map f, st)) : wp (mapM (itemF F own tg ifs elt ρ) l st) Q := by
  have := wp_comp (F := F) (own := own) (tg := tg) (ifs := ifs) (elt := elt) (ρ := ρ) (st := st) (e := fun d : D => d) (f := f) (l := l) (Q := Q) h hq
  simpa using this
/-- a value: no cell within two tuples -/
def okV : D → Bool
  | .tuple ds => ds.all nd2 && decide (ds.length ≤ maxLen)
  | d => nd d
@[simp] theorem okV_t {xs : List D} : okV (.tuple xs) = (xs.all nd2 && decide (xs.length ≤ maxLen)) := (rfl)
def rowOf? : List D → Option (List Int)
  | [] => some []
  | .int i :: r => (rowOf? r).map (i :: ·)
  | _ :: _ => none
theorem rowOf_all {lo hi : Int} : ∀ {ds : List D}, ds.all (btw lo hi) = true → ∃ xs : List Int, ds = xs.map .int ∧ ∀ x ∈ xs, lo ≤ x ∧ x ≤ hi
  | [], _ => ⟨[], rfl, fun x hx => by simp at hx⟩
  | d :: r, h => by
    rw [List.all_cons, Bool.and_eq_true] at h
    obtain ⟨xs, e, hx⟩ := rowOf_all h.2
    cases d <;> first | (cases h.1; done) | skip
    case int i =>
      have hi := h.1
      simp at hi
      exact ⟨i :: xs, by rw [e]; rfl, fun x hx' => by
        rcases List.mem_cons.mp hx' with rfl | hx'
        · exact hi
        · exact hx x hx'⟩
/-- the row that a value is -/
def rowD (n : Nat) (d : D) : Bool := abtw (-1000000000) 1000000000 d && decide ((lenD d : Int) = n)
theorem rowD_row {n : Nat} {d : D} (h : rowD n d = true) : ∃ xs : List Int, d = dInts xs ∧ okRow (n : Int) xs := by
  unfold rowD at h
  rw [Bool.and_eq_true, decide_eq_true_eq] at h
  cases d <;> first | (cases h.1; done) | skip
  case tuple ds =>
    obtain ⟨xs, rfl, hx⟩ := rowOf_all (show ds.all _ = true from h.1)
    exact ⟨xs, rfl, by simpa using h.2, hx⟩
def intsOf : D → List Int
  | .tuple ds => ds.map fun d => match d with | .int i => i | _ => 0
  | _ => []
theorem intsOf_row {xs : List Int} : intsOf (dInts xs) = xs := by
  show ((xs.map PyData.int).map fun d => match d with | .int i => i | _ => 0) = xs
  rw [List.map_map]
  exact List.map_id _
theorem notin_12 {m : Int} : cmp2 .notin (.int m) (.tuple [.int 1, .int 2]) = some (.bool (!(decide (1 = m) || decide (2 = m)))) := by
  have a : flat (.tuple [.int 1, .int 2]) = true := by decide +kernel
  simp only [cmp2, fl_int, a, Bool.and_self, if_true, List.any_cons, List.any_nil, Bool.or_false, cast_eqv]
theorem enum_map {α : Type} {f : α → D} {l : List α} : enumOf (l.map f) = l.zipIdx.map fun q => .tuple [.int (q.2 : Nat), f q.1] := by
  unfold enumOf
  rw [List.zipIdx_map, List.map_map]
  rfl
theorem erase_filter {α : Type} : ∀ (l : List α) (k p : Nat), ((l.zipIdx k).filter fun q => decide (q.2 ≠ k + p)).map (·.1) = l.eraseIdx p
  | [], _, _ => by simp
  | x :: l, k, 0 => by
    have all_ : ∀ (l : List α) (j : Nat), k < j → ((l.zipIdx j).filter fun q => decide (q.2 ≠ k + 0)).map (·.1) = l := by
      intro l
      induction l with
      | nil => intro j _; rfl
      | cons y l ih =>
        intro j hj
        rw [List.zipIdx_cons, List.filter_cons_of_pos (by simp; omega), List.map_cons, ih (j + 1) (by omega)]
    rw [List.zipIdx_cons, List.filter_cons_of_neg (by simp), all_ l (k + 1) (by omega)]
    rfl
  | x :: l, k, p + 1 => by
    rw [List.zipIdx_cons, List.filter_cons_of_pos (by simp), List.map_cons]
    have := erase_filter l (k + 1) p
    have e : k + 1 + p = k + (p + 1) := by omega
    rw [e] at this
    rw [this]
    rfl

/-! ### the text of data tells a row of 0 and 1 -/
def tx (x : Str) : List Nat := x.cps.toList
theorem tx_app (a b : Str) : tx (a ++ b) = tx a ++ tx b := by
  show (a.cps ++ b.cps).toList = _
  rw [Array.toList_append]; rfl
theorem tx_inj {a b : Str} (h : tx a = tx b) : a = b := by
  cases a; cases b
  unfold tx at h
  congr 1
  exact Array.toList_inj.mp h
theorem tx_of (s : String) : tx (PySem.Str.ofString s) = s.toList.map Char.toNat := by
  unfold tx
  rw [PySem.Str.ofString_eq_toList]
def J : List (List Nat) → List Nat
  | [] => []
  | [t] => t
  | t :: r => t ++ [44, 32] ++ J r
theorem J_cc {t u : List Nat} {r : List (List Nat)} : J (t :: u :: r) = t ++ [44, 32] ++ J (u :: r) := rfl
theorem tx_join : ∀ ts : List Str, tx (Str.join ", " ts) = J (ts.map tx)
  | [] => rfl
  | [t] => rfl
  | t :: u :: r => by
    show tx (t ++ ", " ++ Str.join ", " (u :: r)) = _
    rw [tx_app, tx_app, tx_join (u :: r)]
    rfl
def clo (n : Nat) : List Nat := if n = 1 then [44, 41] else [41]
theorem tx_tup (ds : List D) : tx (PyData.tuple ds).shown = 40 :: (J (ds.map fun d => tx d.shown) ++ clo ds.length) := by
  have e : (PyData.tuple ds).shown = tupleText (ds.map PyData.shown) := by simp [PyData.shown, shownAll_eq]
  rw [e]
  unfold tupleText
  rw [tx_app, tx_app, tx_join, List.map_map]
  have e1 : tx ("(" : Str) = [40] := by decide +kernel
  rw [e1, List.append_assoc, List.singleton_append]
  have e2 : tx ((if (ds.map PyData.shown).length == 1 then ",)" else ")" : String) : Str) = clo ds.length := by
    unfold clo
    rw [List.length_map]
    by_cases h : ds.length = 1
    · rw [if_pos h, if_pos (by simpa using h)]; decide +kernel
    · rw [if_neg h, if_neg (by simpa using h)]; decide +kernel
  rw [e2]
  rfl
def dig (c : Nat) : Prop := 48 ≤ c ∧ c ≤ 57
/-- how a text begins, that is no number's -/
def hdOk (c : Nat) : Prop := c = 78 ∨ c = 84 ∨ c = 70 ∨ c = 34 ∨ c = 39 ∨ c = 91 ∨ c = 40 ∨ c = 123 ∨ c = 45
theorem foldl_pre (q : Nat) : ∀ (l : List Nat) (acc : Array Nat), ∃ r, (l.foldl (fun out c => out ++ (Builtin.Str.reprChar q c).toArray) acc).toList = acc.toList ++ r
  | [], acc => ⟨[], by simp⟩
  | c :: l, acc => by
    obtain ⟨r, hr⟩ := foldl_pre q l (acc ++ (Builtin.Str.reprChar q c).toArray)
    exact ⟨Builtin.Str.reprChar q c ++ r, by rw [List.foldl_cons, hr]; simp⟩
theorem textFrom_pre : ∀ (ts : List Str) (k : Nat) (acc : Str), ∃ r, tx (textFrom k acc ts) = tx acc ++ r
  | [], _, acc => ⟨[], by simp [textFrom]⟩
  | t :: ts, k, acc => by
    obtain ⟨r, hr⟩ := textFrom_pre ts (k + 1) (acc ++ (if k > 0 then ", " else "" : String) ++ t)
    refine ⟨tx (if k > 0 then ", " else "" : String) ++ tx t ++ r, ?_⟩
    rw [textFrom, hr, tx_app, tx_app]
    simp
theorem tx_nat (n : Nat) : tx (PyData.int (n : Int)).shown = (Nat.toDigits 10 n).map Char.toNat := by
  have e : (PyData.int (n : Int)).shown = PySem.Str.ofString (toString (n : Int)) := by simp [PyData.shown]
  rw [e, tx_of]
  show (Nat.repr n).toList.map Char.toNat = _
  rw [Nat.toList_repr]
/-- no text of data but a number not less than 0 begins by a digit -/
theorem hd_of (d : D) : (∃ n : Nat, d = .int (n : Int)) ∨ ∃ c r, tx d.shown = c :: r ∧ hdOk c := by
  cases d with
  | none => exact .inr ⟨78, [111, 110, 101], by simp only [PyData.shown]; decide +kernel, .inl rfl⟩
  | bool b =>
    cases b
    · exact .inr ⟨70, [97, 108, 115, 101], by simp only [PyData.shown]; decide +kernel, by simp [hdOk]⟩
    · exact .inr ⟨84, [114, 117, 101], by simp only [PyData.shown]; decide +kernel, by simp [hdOk]⟩
  | int i =>
    cases i with
    | ofNat n => exact .inl ⟨n, rfl⟩
    | negSucc n =>
      right
      have e : (PyData.int (Int.negSucc n)).shown = PySem.Str.ofString ("-" ++ Nat.repr (n + 1)) := by
        simp only [PyData.shown]; rfl
      rw [e, tx_of, String.toList_append]
      exact ⟨45, (Nat.repr (n + 1)).toList.map Char.toNat, by simp, by simp [hdOk]⟩
  | str x =>
    right
    have e : (PyData.str x).shown = reprText x := by simp [PyData.shown]
    rw [e]
    unfold reprText tx
    rw [Array.toList_push, ← Array.foldl_toList]
    obtain ⟨r, hr⟩ := foldl_pre (reprQuote x) x.cps.toList #[reprQuote x]
    rw [hr]
    refine ⟨reprQuote x, r ++ [reprQuote x], by simp, ?_⟩
    unfold reprQuote
    split <;> simp [hdOk]
  | list xs =>
    right
    have e : (PyData.list xs).shown = listText (xs.map PyData.shown) := by simp [PyData.shown, shownAll_eq]
    rw [e]
    unfold listText
    rw [tx_app]
    obtain ⟨r, hr⟩ := textFrom_pre (xs.map PyData.shown) 0 "["
    rw [hr]
    have e1 : tx ("[" : Str) = [91] := by decide +kernel
    exact ⟨91, r ++ tx ("]" : Str), by rw [e1]; simp, by simp [hdOk]⟩
  | tuple xs => exact .inr ⟨40, _, tx_tup xs, by simp [hdOk]⟩
  | dict kvs =>
    right
    have e : (PyData.dict kvs).shown = dictText (PyData.shownKv kvs) := by simp [PyData.shown]
    rw [e]
    unfold dictText
    rw [tx_app, tx_app]
    have e1 : tx ("{" : Str) = [123] := by decide +kernel
    exact ⟨123, _, by rw [e1]; simp; rfl, by simp [hdOk]⟩
theorem hdOk_dig {c : Nat} (h : hdOk c) : ¬ dig c := by unfold hdOk at h; unfold dig; omega
theorem tx_ne (d : D) : ∃ c r, tx d.shown = c :: r ∧ c ≠ 41 := by
  rcases hd_of d with ⟨n, rfl⟩ | ⟨c, r, h, hc⟩
  · rw [tx_nat]
    cases h : Nat.toDigits 10 n with
    | nil => exact absurd h Nat.toDigits_ne_nil
    | cons a r =>
      have := Nat.isDigit_of_mem_toDigits (b := 10) (n := n) (c := a) (by decide) (by decide) (by rw [h]; exact List.mem_cons_self ..)
      refine ⟨a.toNat, r.map Char.toNat, rfl, fun e => ?_⟩
      have e2 : a = ')' := Char.toNat_inj.mp e
      subst e2
      exact absurd this (by decide)
  · exact ⟨c, r, h, by unfold hdOk at hc; omega⟩
theorem dig_of {a : Char} (h : a.isDigit = true) : dig a.toNat := by
  simp only [Char.isDigit, Bool.and_eq_true, decide_eq_true_eq] at h
  obtain ⟨h1, h2⟩ := h
  exact ⟨by simpa [UInt32.le_iff_toNat_le] using h1, by simpa [UInt32.le_iff_toNat_le] using h2⟩
/-- one item ahead of what is no digit -/
theorem item_of {d : D} {b : Int} {u s : List Nat} (hb : b = 0 ∨ b = 1) (h : tx d.shown ++ u = tx (PyData.int b).shown ++ s) (hu : ∃ f u', u = f :: u' ∧ ¬ dig f) (hs : ∃ f s', s = f :: s' ∧ ¬ dig f) : d = .int b ∧ u = s := by
  have eb : ∃ c : Nat, tx (PyData.int b).shown = [c] ∧ dig c := by
    rcases hb with rfl | rfl
    · exact ⟨48, by rw [show (0 : Int) = ((0 : Nat) : Int) from rfl, tx_nat]; decide +kernel, by unfold dig; omega⟩
    · exact ⟨49, by rw [show (1 : Int) = ((1 : Nat) : Int) from rfl, tx_nat]; decide +kernel, by unfold dig; omega⟩
  obtain ⟨c, ec, hc⟩ := eb
  have h0 := h
  rw [ec] at h
  rcases hd_of d with ⟨n, rfl⟩ | ⟨c', r, h', hc'⟩
  · have hdig : ∀ x ∈ tx (PyData.int (n : Int)).shown, dig x := fun x hx => by
      rw [tx_nat] at hx
      obtain ⟨a, ha, rfl⟩ := List.mem_map.mp hx
      exact dig_of (Nat.isDigit_of_mem_toDigits (by decide) (by decide) ha)
    have hne : tx (PyData.int (n : Int)).shown ≠ [] := by
      rw [tx_nat]
      simpa using Nat.toDigits_ne_nil
    cases hx : tx (PyData.int (n : Int)).shown with
    | nil => exact absurd hx hne
    | cons a r =>
      rw [hx] at h hdig
      cases r with
      | cons a' r =>
        obtain ⟨f, s', rfl, hf⟩ := hs
        simp only [List.cons_append, List.nil_append, List.cons.injEq] at h
        exact absurd (h.2.1 ▸ hdig a' (by simp)) hf
      | nil =>
        simp only [List.cons_append, List.nil_append, List.cons.injEq] at h
        obtain ⟨rfl, hu'⟩ := h
        refine ⟨?_, hu'⟩
        have hn : n < 10 := by
          have := (Nat.length_toDigits_le_iff (n := n) (b := 10) (k := 1) (by decide) (by decide)).mp (by
            have e := congrArg List.length hx
            rw [tx_nat, List.length_map] at e
            simp at e
            omega)
          simpa using this
        rw [← ec] at hx
        rw [tx_nat] at hx
        have d9 : ∀ m : Nat, m < 10 → ∀ k : Nat, k ≤ 1 → (Nat.toDigits 10 m).map Char.toNat = (Nat.toDigits 10 k).map Char.toNat → m = k := by decide +kernel
        rcases hb with rfl | rfl
        · rw [show (0 : Int) = ((0 : Nat) : Int) from rfl, tx_nat] at hx
          rw [d9 n hn 0 (by omega) hx]; rfl
        · rw [show (1 : Int) = ((1 : Nat) : Int) from rfl, tx_nat] at hx
          rw [d9 n hn 1 (by omega) hx]; rfl
  · rw [h'] at h
    simp only [List.cons_append, List.cons.injEq] at h
    exact absurd (h.1 ▸ hc) (hdOk_dig hc')
theorem n44 : ¬ dig 44 := by unfold dig; omega
theorem n41 : ¬ dig 41 := by unfold dig; omega
theorem row_tail : ∀ {bs : List Int} {ds : List D}, (∀ b ∈ bs, b = 0 ∨ b = 1) → bs ≠ [] → ds ≠ [] → J (ds.map fun d => tx d.shown) ++ [41] = J (bs.map fun b => tx (PyData.int b).shown) ++ [41] → ds = bs.map .int
  | [b], [d], hb, _, _, h => by
    obtain ⟨e, _⟩ := item_of (hb b (by simp)) (show tx d.shown ++ [41] = _ ++ [41] from h) ⟨41, _, rfl, n41⟩ ⟨41, _, rfl, n41⟩
    rw [e]; rfl
  | [b], d :: e :: q, hb, _, _, h => by
    simp only [List.map_cons, J_cc, List.append_assoc] at h
    obtain ⟨_, h2⟩ := item_of (hb b (by simp)) h ⟨44, _, rfl, n44⟩ ⟨41, _, rfl, n41⟩
    simp at h2
  | b :: b' :: r, [d], hb, _, _, h => by
    simp only [List.map_cons, J_cc, List.append_assoc] at h
    obtain ⟨_, h2⟩ := item_of (hb b (by simp)) h ⟨41, _, rfl, n41⟩ ⟨44, _, rfl, n44⟩
    simp at h2
  | b :: b' :: r, d :: e :: q, hb, _, _, h => by
    simp only [List.map_cons, J_cc, List.append_assoc] at h
    obtain ⟨h1, h2⟩ := item_of (hb b (by simp)) h ⟨44, _, rfl, n44⟩ ⟨44, _, rfl, n44⟩
    have ih := row_tail (bs := b' :: r) (ds := e :: q) (fun x hx => hb x (List.mem_cons_of_mem _ hx)) (by simp) (by simp) (by simpa using h2)
    rw [h1, ih]
    rfl
  | [], _, _, h, _, _ => absurd rfl h
  | _ :: _, [], _, _, h, _ => absurd rfl h
theorem row_shown {bs : List Int} {d : D} (hb : ∀ b ∈ bs, b = 0 ∨ b = 1) (h : d.shown = (dInts bs).shown) : d = dInts bs := by
  have h' := congrArg tx h
  have eB : tx (dInts bs).shown = 40 :: (J (bs.map fun b => tx (PyData.int b).shown) ++ clo bs.length) := by
    unfold dInts
    rw [tx_tup, List.map_map, List.length_map]
    rfl
  rw [eB] at h'
  cases d with
  | tuple ds =>
    rw [tx_tup] at h'
    simp only [List.cons.injEq, true_and] at h'
    show PyData.tuple ds = .tuple (bs.map .int)
    congr 1
    match bs, ds, hb, h' with
    | [], [], _, _ => rfl
    | [], [d], _, h' =>
      obtain ⟨c, r, e, hc⟩ := tx_ne d
      simp [J, clo, e] at h'
    | [], d :: e :: q, _, h' =>
      obtain ⟨c, r, e', hc⟩ := tx_ne d
      simp [J, clo, e', hc] at h'
    | [b], [], hb, h' =>
      obtain ⟨c, r, e, hc⟩ := tx_ne (.int b)
      simp [J, clo, e] at h'
    | [b], [d], hb, h' =>
      obtain ⟨h1, _⟩ := item_of (hb b (by simp)) h' ⟨44, _, rfl, n44⟩ ⟨44, _, rfl, n44⟩
      rw [h1]; rfl
    | [b], d :: e :: q, hb, h' =>
      simp only [List.map_cons, J_cc, List.append_assoc] at h'
      obtain ⟨_, h2⟩ := item_of (hb b (by simp)) h' ⟨44, _, rfl, n44⟩ ⟨44, _, rfl, n44⟩
      simp [clo] at h2
    | b :: b' :: r, [], hb, h' =>
      obtain ⟨c, r, e, hc⟩ := tx_ne (.int b)
      simp only [List.map_cons, J_cc, List.append_assoc, e] at h'
      simp [J, clo] at h'
    | b :: b' :: r, [d], hb, h' =>
      simp only [List.map_cons, J_cc, List.append_assoc] at h'
      obtain ⟨_, h2⟩ := item_of (hb b (by simp)) h' ⟨44, _, rfl, n44⟩ ⟨44, _, rfl, n44⟩
      simp [clo] at h2
    | b :: b' :: r, d :: e :: q, hb, h' => exact row_tail hb (by simp) (by simp) (by simpa [clo] using h')
  | int i =>
    exfalso
    rcases hd_of (.int i) with ⟨n, e⟩ | ⟨c, r, e, hc⟩
    · rw [e, tx_nat] at h'
      cases hx : Nat.toDigits 10 n with
      | nil => exact Nat.toDigits_ne_nil hx
      | cons a r =>
        have := dig_of (Nat.isDigit_of_mem_toDigits (b := 10) (n := n) (c := a) (by decide) (by decide) (by rw [hx]; exact List.mem_cons_self ..))
        rw [hx] at h'
        simp only [List.map_cons, List.cons.injEq] at h'
        rw [h'.1] at this
        unfold dig at this
        omega
    · cases i with
      | ofNat n =>
        rw [show (PyData.int (Int.ofNat n)) = .int (n : Int) from rfl, tx_nat] at e
        have : c ∈ (Nat.toDigits 10 n).map Char.toNat := by rw [e]; exact List.mem_cons_self ..
        obtain ⟨a, ha, rfl⟩ := List.mem_map.mp this
        exact hdOk_dig hc (dig_of (Nat.isDigit_of_mem_toDigits (by decide) (by decide) ha))
      | negSucc n =>
        have e2 : (PyData.int (Int.negSucc n)).shown = PySem.Str.ofString ("-" ++ Nat.repr (n + 1)) := by
          simp only [PyData.shown]; rfl
        rw [e2, tx_of, String.toList_append] at h'
        simp at h'
  | none => exfalso; simp only [PyData.shown] at h'; exact absurd (congrArg List.head? h') (by rw [show tx ("None" : Str) = [78, 111, 110, 101] by decide +kernel]; simp)
  | bool b =>
    exfalso
    cases b
    · have e3 : tx (PyData.bool false).shown = [70, 97, 108, 115, 101] := by simp only [PyData.shown]; decide +kernel
      rw [e3] at h'
      simp at h'
    · have e3 : tx (PyData.bool true).shown = [84, 114, 117, 101] := by simp only [PyData.shown]; decide +kernel
      rw [e3] at h'
      simp at h'
  | str x =>
    exfalso
    have e : (PyData.str x).shown = reprText x := by simp [PyData.shown]
    rw [e] at h'
    unfold reprText tx at h'
    rw [Array.toList_push, ← Array.foldl_toList] at h'
    obtain ⟨r, hr⟩ := foldl_pre (reprQuote x) x.cps.toList #[reprQuote x]
    rw [hr] at h'
    simp only [List.cons_append, List.nil_append, List.cons.injEq] at h'
    have := h'.1
    unfold reprQuote at this
    split at this <;> omega
  | list xs =>
    exfalso
    have e : (PyData.list xs).shown = listText (xs.map PyData.shown) := by simp [PyData.shown, shownAll_eq]
    rw [e] at h'
    unfold listText at h'
    rw [tx_app] at h'
    obtain ⟨r, hr⟩ := textFrom_pre (xs.map PyData.shown) 0 "["
    rw [hr, show tx ("[" : Str) = [91] by decide +kernel] at h'
    simp at h'
  | dict kvs =>
    exfalso
    have e : (PyData.dict kvs).shown = dictText (PyData.shownKv kvs) := by simp [PyData.shown]
    rw [e] at h'
    unfold dictText at h'
    rw [tx_app, tx_app, show tx ("{" : Str) = [123] by decide +kernel] at h'
    simp at h'

def leL : List Int → List Int → Prop
  | [], [] => True
  | x :: xs, y :: ys => x ≤ y ∧ leL xs ys
  | _, _ => False
theorem leL_refl : ∀ xs : List Int, leL xs xs
  | [] => trivial
  | x :: xs => ⟨Int.le_refl _, leL_refl xs⟩
theorem leL_len : ∀ {xs ys : List Int}, leL xs ys → xs.length = ys.length
  | [], [], _ => rfl
  | _ :: _, _ :: _, h => by simp [leL_len h.2]
  | [], _ :: _, h => h.elim
  | _ :: _, [], h => h.elim
theorem leL_at : ∀ {xs ys : List Int} {i : Nat}, leL xs ys → xs.getD i 0 ≤ ys.getD i 0
  | [], [], _, _ => by simp
  | x :: xs, y :: ys, 0, h => by simpa using h.1
  | x :: xs, y :: ys, i + 1, h => by simpa using leL_at (i := i) h.2
  | [], _ :: _, _, h => h.elim
  | _ :: _, [], _, h => h.elim
theorem leL_of : ∀ {xs ys : List Int}, xs.length = ys.length → (∀ i : Nat, i < xs.length → xs.getD i 0 ≤ ys.getD i 0) → leL xs ys
  | [], [], _, _ => trivial
  | x :: xs, y :: ys, hl, h => ⟨by simpa using h 0 (by simp), leL_of (by simpa using hl) fun i hi => by simpa using h (i + 1) (by simpa using hi)⟩
  | [], _ :: _, hl, _ => by simp at hl
  | _ :: _, [], hl, _ => by simp at hl
theorem passL_le {n : Int} {xs ys : List Int} {r : Int × Int} (h : leL xs ys) (hr : okR n r) (hx : (xs.length : Int) = n) : leL (passL xs r) (passL ys r) := by
  have hl := leL_len h
  refine leL_of (by rw [passL_len, passL_len, hl]) fun i hi => ?_
  rw [passL_len] at hi
  have e1 := passL_at (xs := xs) (i := (i : Int)) hr hx (by omega) (by omega)
  have e2 := passL_at (xs := ys) (i := (i : Int)) hr (by omega) (by omega) (by omega)
  have g : ∀ zs : List Int, zs.getD i 0 = gI zs (i : Int) := fun zs => by simp [gI]
  rw [g, g, e1, e2]
  have h1 : gI xs r.1 ≤ gI ys r.1 := leL_at h
  have h2 : gI xs r.2 ≤ gI ys r.2 := leL_at h
  have h3 : gI xs (i : Int) ≤ gI ys (i : Int) := leL_at h
  by_cases a1 : (i : Int) = r.1
  · rw [a1]; rw [a1] at h3
    repeat' split
    all_goals omega
  · by_cases a2 : (i : Int) = r.2
    · rw [a2]; rw [a2] at h3
      repeat' split
      all_goals omega
    · simp only [a1, a2, if_false]
      repeat' split
      all_goals omega
theorem comeL_le {n : Int} : ∀ {rs : List (Int × Int)} {xs ys : List Int}, leL xs ys → (∀ r ∈ rs, okR n r) → (xs.length : Int) = n → leL (comeL rs xs) (comeL rs ys)
  | [], _, _, h, _, _ => h
  | r :: t, xs, ys, h, hr, hx => by
    show leL (comeL t (passL xs r)) (comeL t (passL ys r))
    exact comeL_le (passL_le h (hr r (List.mem_cons_self ..)) hx) (fun q hq => hr q (List.mem_cons_of_mem _ hq)) (by rw [passL_len]; exact hx)
theorem chg_down : ∀ {b : List Int} {j : Nat}, (∀ x ∈ b, x = 0 ∨ x = 1) → j ≤ b.count 1 → ∃ c, leL c b ∧ (∀ x ∈ c, x = 0 ∨ x = 1) ∧ c.count 1 = j
  | [], j, _, h => ⟨[], trivial, by simp, by simp at h; simp [h]⟩
  | x :: r, j, hb, h => by
    have hr : ∀ y ∈ r, y = 0 ∨ y = 1 := fun y hy => hb y (List.mem_cons_of_mem _ hy)
    rcases hb x (List.mem_cons_self ..) with rfl | rfl
    · rw [List.count_cons_of_ne (by decide)] at h
      obtain ⟨c, h1, h2, h3⟩ := chg_down hr h
      refine ⟨0 :: c, ⟨Int.le_refl _, h1⟩, fun y hy => ?_, by rw [List.count_cons_of_ne (by decide), h3]⟩
      rcases List.mem_cons.mp hy with rfl | hy
      · exact .inl rfl
      · exact h2 y hy
    · rw [List.count_cons_self] at h
      cases j with
      | zero =>
        obtain ⟨c, h1, h2, h3⟩ := chg_down (j := 0) hr (Nat.zero_le _)
        refine ⟨0 :: c, ⟨by decide, h1⟩, fun y hy => ?_, by rw [List.count_cons_of_ne (by decide), h3]⟩
        rcases List.mem_cons.mp hy with rfl | hy
        · exact .inl rfl
        · exact h2 y hy
      | succ j =>
        obtain ⟨c, h1, h2, h3⟩ := chg_down (j := j) hr (by omega)
        refine ⟨1 :: c, ⟨Int.le_refl _, h1⟩, fun y hy => ?_, by rw [List.count_cons_self, h3]⟩
        rcases List.mem_cons.mp hy with rfl | hy
        · exact .inr rfl
        · exact h2 y hy
theorem chg_up : ∀ {b : List Int} {j : Nat}, (∀ x ∈ b, x = 0 ∨ x = 1) → b.count 1 ≤ j → j ≤ b.length → ∃ c, leL b c ∧ (∀ x ∈ c, x = 0 ∨ x = 1) ∧ c.count 1 = j
  | [], j, _, _, h => ⟨[], trivial, by simp, by simp at h; simp [h]⟩
  | x :: r, j, hb, h, hj => by
    have hr : ∀ y ∈ r, y = 0 ∨ y = 1 := fun y hy => hb y (List.mem_cons_of_mem _ hy)
    rw [List.length_cons] at hj
    have fin : ∀ j' : Nat, j = j' + 1 → r.count 1 ≤ j' → j' ≤ r.length → x ≤ 1 → ∃ c, leL (x :: r) c ∧ (∀ y ∈ c, y = 0 ∨ y = 1) ∧ c.count 1 = j := fun j' e a1 a2 a3 => by
      obtain ⟨c, h1, h2, h3⟩ := chg_up hr a1 a2
      refine ⟨1 :: c, ⟨a3, h1⟩, fun y hy => ?_, by rw [List.count_cons_self, h3, e]⟩
      rcases List.mem_cons.mp hy with rfl | hy
      · exact .inr rfl
      · exact h2 y hy
    rcases hb x (List.mem_cons_self ..) with rfl | rfl
    · rw [List.count_cons_of_ne (by decide)] at h
      by_cases q : j ≤ r.length
      · obtain ⟨c, h1, h2, h3⟩ := chg_up hr h q
        refine ⟨0 :: c, ⟨Int.le_refl _, h1⟩, fun y hy => ?_, by rw [List.count_cons_of_ne (by decide), h3]⟩
        rcases List.mem_cons.mp hy with rfl | hy
        · exact .inl rfl
        · exact h2 y hy
      · exact fin r.length (by omega) List.count_le_length (Nat.le_refl _) (by decide)
    · rw [List.count_cons_self] at h
      exact fin (j - 1) (by omega) (by omega) (by omega) (by decide)
theorem mem_take_at {xs : List Int} {p : Nat} {a : Int} : a ∈ xs.take p ↔ ∃ i, i < p ∧ i < xs.length ∧ xs.getD i 0 = a := by
  rw [List.mem_take_iff_getElem]
  constructor
  · rintro ⟨i, hi, e⟩
    exact ⟨i, by omega, by omega, by rw [List.getD_eq_getElem?_getD, List.getElem?_eq_getElem (by omega)]; simpa using e⟩
  · rintro ⟨i, h1, h2, e⟩
    exact ⟨i, by omega, by rw [List.getD_eq_getElem?_getD, List.getElem?_eq_getElem (by omega)] at e; simpa using e⟩
theorem mem_drop_at {xs : List Int} {p : Nat} {a : Int} : a ∈ xs.drop p ↔ ∃ i, p ≤ i ∧ i < xs.length ∧ xs.getD i 0 = a := by
  rw [List.mem_drop_iff_getElem]
  constructor
  · rintro ⟨i, hi, e⟩
    exact ⟨p + i, by omega, by omega, by rw [List.getD_eq_getElem?_getD, List.getElem?_eq_getElem (by omega)]; simpa using e⟩
  · rintro ⟨i, h1, h2, e⟩
    exact ⟨i - p, by omega, by
      rw [List.getD_eq_getElem?_getD, List.getElem?_eq_getElem (by omega)] at e
      have e2 : p + (i - p) = i := by omega
      simp only [e2]
      simpa using e⟩

theorem fl_rowsT {l : List (List Int)} : flat (.list (l.map dInts)) = true := fl_sh (n := 2) (sh_list fun d hd => by
  obtain ⟨x, _, rfl⟩ := List.mem_map.mp hd
  exact sh_ints) (by omega)
theorem eqv_nilL {xs : List D} : PyData.eqv (.list xs) (.list []) = xs.isEmpty := by
  cases xs <;> simp [PyData.eqv, PyData.eqvAll]
theorem fl_nilL : flat (.list []) = true := by rfl
theorem in_rows {l : List (List Int)} {b : List Int} : cmp2 .isin (dInts b) (.list (l.map dInts)) = some (.bool (decide (b ∈ l))) := by
  simp only [cmp2, fl_ints, fl_rowsT, Bool.and_self, if_true]
  congr 2
  induction l with
  | nil => simp
  | cons x r ih =>
    rw [List.map_cons, List.any_cons, ih, eqv_ints]
    by_cases h : x = b
    · subst h; simp
    · have h' : ¬ b = x := fun e => h e.symm
      simp [h, h']
theorem f_check_number {P : Nat → Option FD} {W k : Nat} {st : Sto} (h : H_check_number P) {n j : Nat} (hj : j ≤ n) : evF P W (k + 3) 318 [.int (j : Int), .int (n : Int)] st = some (.v .none, st) := by
  apply eq_of_wp
  apply w_fn h.p rfl
  have e3 := f_is_between (W := W) (k := k) (st := st) h.is_between (d := .int (j : Int)) (lo := 0) (hi := (n : Int)) rfl
  have b1 : btw 0 (n : Int) (.int (j : Int)) = true := by simp; omega
  rw [b1] at e3
  simp [b_check_number, e3]
theorem is_opt (o : Option (List Int)) : cmp2 .is (optD o) .none = some (.bool o.isNone) := by cases o <;> rfl
/-- the bits that a value is -/
def bitsD (n : Nat) (d : D) : Bool := abtw 0 1 d && decide ((lenD d : Int) = n)
theorem bitsD_row {n : Nat} {d : D} (h : bitsD n d = true) : ∃ xs : List Int, d = dInts xs ∧ xs ∈ bitsAll n := by
  unfold bitsD at h
  rw [Bool.and_eq_true, decide_eq_true_eq] at h
  cases d <;> first | (cases h.1; done) | skip
  case tuple ds =>
    obtain ⟨xs, rfl, hx⟩ := rowOf_all (show ds.all _ = true from h.1)
    exact ⟨xs, rfl, bitsAll_mem.mpr ⟨by have := h.2; simp at this; omega, fun b hb => by have := hx b hb; omega⟩⟩
theorem bitsD_of {n : Nat} {b : List Int} (h : b ∈ bitsAll n) : bitsD n (dInts b) = true := by
  obtain ⟨h1, h2⟩ := bitsAll_mem.mp h
  unfold bitsD
  rw [Bool.and_eq_true, decide_eq_true_eq]
  refine ⟨?_, by simp [dInts]; omega⟩
  simp only [dInts, abtw_t, List.all_map, List.all_eq_true]
  intro x hx
  rcases h2 x hx with rfl | rfl <;> simp
theorem in_shown {l : List (List Int)} {n : Nat} {d : D} (hl : ∀ b ∈ l, b ∈ bitsAll n) : ∃ t : Bool, cmp2 .isin (.str d.shown) (.list (l.map fun b => .str (dInts b).shown)) = some (.bool t) ∧ (t = true ↔ ∃ b ∈ l, d = dInts b) := by
  have f1 : flat (.list (l.map fun b => .str (dInts b).shown)) = true := fl_sh (n := 1) (sh_list fun d hd => by
    obtain ⟨b, _, rfl⟩ := List.mem_map.mp hd
    simp [shal, PyData.plain, PyData.depth]) (by omega)
  have f2 : flat (.str d.shown) = true := rfl
  refine ⟨(l.map fun b => PyData.str (dInts b).shown).any fun z => z.eqv (.str d.shown), by simp only [cmp2, f1, f2, Bool.and_self, if_true], ?_⟩
  rw [List.any_eq_true]
  constructor
  · rintro ⟨_, hz, e⟩
    obtain ⟨b, hb, rfl⟩ := List.mem_map.mp hz
    refine ⟨b, hb, row_shown (bitsAll_mem.mp (hl b hb)).2 ?_⟩
    have : (dInts b).shown = d.shown := by simpa [PyData.eqv] using e
    exact this.symm
  · rintro ⟨b, hb, rfl⟩
    exact ⟨_, List.mem_map_of_mem hb, eqv_same (n := 1) (by rfl)⟩
theorem eqv_str {x : Str} : PyData.eqv (.str x) (.str x) = true := eqv_same (n := 1) (by rfl)
theorem sum_bits : ∀ {b : List Int}, (∀ x ∈ b, x = 0 ∨ x = 1) → b.sum = (b.count 1 : Nat)
  | [], _ => rfl
  | x :: r, h => by
    rw [List.sum_cons, sum_bits fun y hy => h y (List.mem_cons_of_mem _ hy)]
    rcases h x (List.mem_cons_self ..) with rfl | rfl
    · rw [List.count_cons_of_ne (by decide)]; omega
    · rw [List.count_cons_self]; omega

/-! ### a 1 ahead of the last tracks, and a 0 on them -/
def mixB (p : Nat) (row : List Int) : Bool := decide (1 ∈ row.take p) && decide (0 ∈ row.drop p)
def mixL (n : Nat) (rs : List (Int × Int)) (j : Nat) : List (List Int) := (bitsAll n).filter fun b => mixB (n - j) (comeL rs b)
def partL (n j : Nat) : List (List Int) := (bitsAll n).filter fun b => decide (b.count 1 = j)
def firstM (n : Nat) (rs : List (Int × Int)) (j : Nat) : Option (List Int) := (partL n j).find? fun b => mixB (n - j) (comeL rs b)
theorem mix_part {n j : Nat} {rs : List (Int × Int)} (hr : ∀ r ∈ rs, okR (n : Int) r) (hj : j ≤ n) (h : mixL n rs j ≠ []) : ∃ b ∈ mixL n rs j, b.count 1 = j := by
  obtain ⟨b, hb⟩ := List.exists_mem_of_ne_nil _ h
  obtain ⟨hb1, hb2⟩ := List.mem_filter.mp hb
  obtain ⟨hbl, hbb⟩ := bitsAll_mem.mp hb1
  unfold mixB at hb2
  rw [Bool.and_eq_true, decide_eq_true_eq, decide_eq_true_eq] at hb2
  obtain ⟨p, hp1, hp2, hp⟩ := mem_take_at.mp hb2.1
  obtain ⟨q, hq1, hq2, hq⟩ := mem_drop_at.mp hb2.2
  -- what stands in c, that has just j ones
  have key : ∀ c : List Int, c.length = n → (∀ x ∈ c, x = 0 ∨ x = 1) → c.count 1 = j → (comeL rs c).getD q 0 = 0 ∨ (comeL rs c).getD p 0 = 1 → ∃ b ∈ mixL n rs j, b.count 1 = j := by
    intro c hc hcb hcc hh
    have hpm := come_perm (n := (n : Int)) hr (xs := c) (by omega)
    have hlen : (comeL rs c).length = n := by rw [comeL_len, hc]
    have hp2' := hp2
    have hq2' := hq2
    rw [comeL_len] at hp2' hq2'
    have hcnt : (comeL rs c).count 1 = j := by rw [hpm.count_eq, hcc]
    have h01 : ∀ x ∈ comeL rs c, x = 0 ∨ x = 1 := fun x hx => hcb x (hpm.mem_iff.mp hx)
    have hsp : ((comeL rs c).take (n - j)).count 1 + ((comeL rs c).drop (n - j)).count 1 = j := by
      rw [← List.count_append, List.take_append_drop, hcnt]
    have hdl : ((comeL rs c).drop (n - j)).length = j := by rw [List.length_drop, hlen]; omega
    refine ⟨c, List.mem_filter.mpr ⟨bitsAll_mem.mpr ⟨hc, hcb⟩, ?_⟩, hcc⟩
    unfold mixB
    rw [Bool.and_eq_true, decide_eq_true_eq, decide_eq_true_eq]
    have all1 : (0 : Int) ∉ (comeL rs c).drop (n - j) → ((comeL rs c).drop (n - j)).count 1 = j := fun z => by
      have e1 : ((comeL rs c).drop (n - j)).count 1 = ((comeL rs c).drop (n - j)).length := List.count_eq_length.mpr fun x hx => by
        rcases h01 x (List.mem_of_mem_drop hx) with e | e
        · rw [e] at hx; exact absurd hx z
        · exact e.symm
      rw [e1, hdl]
    rcases hh with hh | hh
    · have hz : (0 : Int) ∈ (comeL rs c).drop (n - j) := mem_drop_at.mpr ⟨q, hq1, by omega, hh⟩
      refine ⟨?_, hz⟩
      apply Classical.byContradiction
      intro z
      have z0 : ((comeL rs c).take (n - j)).count 1 = 0 := List.count_eq_zero.mpr z
      have := (List.count_eq_length (a := (1 : Int)) (l := (comeL rs c).drop (n - j))).mp (by rw [hdl]; omega) 0 hz
      exact absurd this (by decide)
    · have hz : (1 : Int) ∈ (comeL rs c).take (n - j) := mem_take_at.mpr ⟨p, hp1, by omega, hh⟩
      refine ⟨hz, ?_⟩
      apply Classical.byContradiction
      intro z
      have a := all1 z
      have b := List.count_pos_iff.mpr hz
      omega
  rcases Nat.le_total j (b.count 1) with hc | hc
  · obtain ⟨c, c1, c2, c3⟩ := chg_down hbb hc
    have hcl := leL_len c1
    refine key c (by omega) c2 c3 (.inl ?_)
    have le := leL_at (i := q) (comeL_le (n := (n : Int)) c1 hr (by omega))
    rw [hq] at le
    rw [comeL_len] at hq2
    have hpm := come_perm (n := (n : Int)) hr (xs := c) (by omega)
    have hm : (comeL rs c).getD q 0 ∈ comeL rs c := by
      rw [List.getD_eq_getElem?_getD, List.getElem?_eq_getElem (by rw [comeL_len]; omega)]
      exact List.getElem_mem _
    rcases c2 _ (hpm.mem_iff.mp hm) with e | e <;> omega
  · obtain ⟨c, c1, c2, c3⟩ := chg_up hbb hc (by omega)
    have hcl := leL_len c1
    refine key c (by omega) c2 c3 (.inr ?_)
    have le := leL_at (i := p) (comeL_le (n := (n : Int)) c1 hr (by omega))
    rw [hp] at le
    rw [comeL_len] at hp2
    have hpm := come_perm (n := (n : Int)) hr (xs := c) (by omega)
    have hm : (comeL rs c).getD p 0 ∈ comeL rs c := by
      rw [List.getD_eq_getElem?_getD, List.getElem?_eq_getElem (by rw [comeL_len]; omega)]
      exact List.getElem_mem _
    rcases c2 _ (hpm.mem_iff.mp hm) with e | e <;> omega
theorem firstM_none {n j : Nat} {rs : List (Int × Int)} (hr : ∀ r ∈ rs, okR (n : Int) r) (hj : j ≤ n) : (firstM n rs j).isNone = (mixL n rs j).isEmpty := by
  rw [Bool.eq_iff_iff, Option.isNone_iff_eq_none, List.isEmpty_iff]
  unfold firstM
  rw [List.find?_eq_none]
  constructor
  · intro h
    apply Classical.byContradiction
    intro z
    obtain ⟨b, hb, hc⟩ := mix_part hr hj z
    obtain ⟨b1, b2⟩ := List.mem_filter.mp hb
    exact h b (List.mem_filter.mpr ⟨b1, by simpa using hc⟩) b2
  · intro h b hb hm
    obtain ⟨b1, b2⟩ := List.mem_filter.mp hb
    have : b ∈ mixL n rs j := List.mem_filter.mpr ⟨b1, hm⟩
    rw [h] at this
    simp at this
theorem firstM_mem {n j : Nat} {rs : List (Int × Int)} {b : List Int} (h : firstM n rs j = some b) : b ∈ mixL n rs j := by
  have h1 := List.mem_of_find?_eq_some h
  have h2 := List.find?_some h
  exact List.mem_filter.mpr ⟨(List.mem_filter.mp h1).1, h2⟩
/-! ### the ladder that brings the greatest to the last tracks -/
def topR (m j : Nat) : List (Int × Int) := ((List.range j).map fun i => (List.range (m - 1 - i)).map fun (t : Nat) => ((t : Int), (t : Int) + 1)).flatten
def topOk (m j : Nat) : Bool := (bitsAll m).all fun b => decide ((comeL (topR m j) b).drop (m - j) = (sortI b).drop (m - j))
theorem top_all : ∀ m : Nat, m ≤ 8 → ∀ j : Nat, j ≤ m → topOk m j = true := by decide +kernel
theorem topR_ok {m j : Nat} (h : j ≤ m) : ∀ r ∈ topR m j, okR (m : Int) r := by
  intro r hr
  unfold topR at hr
  obtain ⟨l, hl, hr⟩ := List.mem_flatten.mp hr
  obtain ⟨i, hi, rfl⟩ := List.mem_map.mp hl
  obtain ⟨t, ht, rfl⟩ := List.mem_map.mp hr
  have := List.mem_range.mp hi
  have := List.mem_range.mp ht
  refine ⟨?_, ?_, ?_⟩
  · show (0 : Int) ≤ t; omega
  · show (t : Int) < t + 1; omega
  · show (t : Int) + 1 < m; omega
theorem topR_len {m j : Nat} (h : m ≤ 8) (hj : j ≤ m) : (topR m j).length ≤ 36 := by
  have : ∀ m : Nat, m ≤ 8 → ∀ j : Nat, j ≤ m → (topR m j).length ≤ 36 := by decide +kernel
  exact this m h j hj
theorem topR_at {m j : Nat} (h : m ≤ 8) (hj : j ≤ m) {b : List Int} (hb : b ∈ bitsAll m) : (comeL (topR m j) b).drop (m - j) = (sortI b).drop (m - j) := by
  have := List.all_eq_true.mp (top_all m h j hj) b hb
  simpa using this
theorem mixL_top {m j : Nat} (h : m ≤ 8) (hj : j ≤ m) : firstM m (topR m j) j = none := by
  unfold firstM
  rw [List.find?_eq_none]
  intro b hb hm
  obtain ⟨b1, b2⟩ := List.mem_filter.mp hb
  have hc : b.count 1 = j := by simpa using b2
  obtain ⟨hbl, hbb⟩ := bitsAll_mem.mp b1
  have e := topR_at h hj b1
  unfold mixB at hm
  rw [Bool.and_eq_true, decide_eq_true_eq, decide_eq_true_eq, e] at hm
  -- the last j of the sorted bits are 1
  have tail1 : ∀ m : Nat, m ≤ 8 → ∀ b ∈ bitsAll m, (0 : Int) ∉ (sortI b).drop (m - b.count 1) := by decide +kernel
  have := tail1 m h b b1
  rw [hc] at this
  exact this hm.2

theorem f_is_mixed {P : Nat → Option FD} {W k : Nat} {st : Sto} (h : H_is_mixed P) {n j : Nat} {rs : List (Int × Int)} {b : List Int} (hl : okL (n : Int) rs) (hj : j ≤ n) (hb : b.length = n) :
    evF P W (k + 3) 460 [dLad n rs, .int (j : Int), dInts b] st = some (.v (.bool (mixB (n - j) (comeL rs b))), st) := by
  apply eq_of_wp
  apply w_fn h.p rfl
  have hh := hl.hi
  have e1 := f_come_out (W := W) (k := k) (st := st) h.come_out (xs := b) hl.each (by omega) (by omega)
  have e2 : (n : Int) - (j : Int) = ((n - j : Nat) : Int) := by omega
  have t1 := sl_t (xs := (comeL rs b).map PyData.int) (lo := none) (hi := some (.int ((n - j : Nat) : Int))) ai_n (ai_i (by omega) (by omega))
  have t2 := sl_t (xs := (comeL rs b).map PyData.int) (lo := some (.int ((n - j : Nat) : Int))) (hi := none) (ai_i (by omega) (by omega)) ai_n
  rw [cut_take (by omega), Int.toNat_natCast, ← List.map_take] at t1
  rw [cut_drop (by omega), Int.toNat_natCast, ← List.map_drop] at t2
  have ed : dInts (comeL rs b) = .tuple ((comeL rs b).map PyData.int) := rfl
  simp only [ed] at e1
  simp [b_is_mixed, e1, -seqQ_nx]
  rw [seqQ_nx]
  simp [-seqQ_nx]
  rw [seqQ_nx]
  simp [e2, t1, t2, c_inT, mixB, -List.map_take, -List.map_drop]
  by_cases q : (1 : Int) ∈ (comeL rs b).take (n - j) <;> simp [q]
theorem partL_len {n j : Nat} (hn : n ≤ 8) : (partL n j).length ≤ 256 := by
  refine Nat.le_trans (List.length_filter_le _ _) ?_
  rw [bitsAll_len]
  exact pow_le8 hn
theorem f_part_bits {P : Nat → Option FD} {W k : Nat} {st : Sto} (h : H_part_bits P) {n j : Nat} (hn : n ≤ 8) : evF P W (k + 2) 564 [.int (n : Int), .int (j : Int)] st = some (.o ((partL n j).map dInts), st) := by
  apply eq_of_wp
  apply w_fn h.p rfl
  have e1 := f_bits_of8 (W := W) (k := k) (st := st) h.bits_of hn
  simp [b_part_bits, e1]
  refine wp_compIf (e := dInts) (p := fun b => decide (b.count 1 = j)) (f := dInts) (fun b hb => ?_) ?_
  · simp [c_cnt, c_eq, cast_eqv]
    by_cases q : b.count 1 = j
    · simp [q]
    · have q' : ¬ ((b.count 1 : Nat) : Int) = j := by omega
      simp [q, q']
  · have := partL_len (j := j) hn
    have this' : ((partL n j).map dInts).length ≤ maxLen := by rw [List.length_map]; simp only [maxLen]; omega
    refine ⟨this', ?_⟩
    exact ⟨rfl, rfl, rfl⟩
theorem f_first_mixed {P : Nat → Option FD} {W k : Nat} {st : Sto} (h : H_first_mixed P) {n j : Nat} {rs : List (Int × Int)} (hl : okL (n : Int) rs) (hn : n ≤ 8) (hj : j ≤ n) :
    evF P W (k + 4) 415 [dLad n rs, .int (j : Int)] st = some (.v (optD (firstM n rs j)), st) := by
  apply eq_of_wp
  apply w_fn h.p rfl
  have e1 := f_part_bits (W := W) (k := k + 1) (st := st) h.part_bits (j := j) hn
  simp [b_first_mixed, e1, -seqQ_nx]
  have hmem : ∀ b ∈ partL n j, b.length = n := fun b hb => bits_len (List.mem_filter.mp hb).1
  unfold firstM
  generalize partL n j = l at *
  refine wp_loop (fun i ρ s => s = st ∧ (l.find? fun b => mixB (n - j) (comeL rs b)) = ((l.drop i).find? fun b => mixB (n - j) (comeL rs b)) ∧ ∃ x : Option RV, ρ = [some (.v (dLad n rs)), some (.v (.int (j : Int))), x]) ⟨rfl, rfl, none, rfl⟩ ?_ ?_
  · rintro i d ρ s hd ⟨rfl, he, x, rfl⟩
    obtain ⟨b, hb, rfl⟩ := map_at hd
    have hi := (List.getElem?_eq_some_iff.mp hb).1
    have hdr : l.drop i = b :: l.drop (i + 1) := by
      rw [List.drop_eq_getElem_cons hi]
      rw [(List.getElem?_eq_some_iff.mp hb).2]
    rw [hdr, List.find?_cons] at he
    have e2 := f_is_mixed (W := W) (k := k) (st := s) h.is_mixed hl hj (hmem b (List.mem_of_getElem? hb))
    cases q : mixB (n - j) (comeL rs b)
    · rw [q] at he e2
      simp [e2, he]
    · rw [q] at he e2
      simp [e2, he, optD]
  · rintro ρ s ⟨rfl, he, x, rfl⟩
    rw [List.length_map, List.drop_length] at he
    rw [seqQ_nx]
    simp [he, optD]
def toldP (n : Nat) (rs : List (Int × Int)) (j : Nat) : D := match firstM n rs j with
  | none => .tuple [.str "parts"]
  | some b => .tuple [.str "bits", dInts b]
theorem f_parts_told {P : Nat → Option FD} {W k : Nat} {st : Sto} (h : H_parts_told P) {n j : Nat} {rs : List (Int × Int)} (hl : okL (n : Int) rs) (hn : n ≤ 8) (hj : j ≤ n) :
    evF P W (k + 7) 567 [dLad n rs, .int (j : Int)] st = some (.v (toldP n rs j), st) := by
  apply eq_of_wp
  apply w_fn h.p rfl
  have e1 := f_check_ladder (W := W) (k := k) (st := st) h.check_ladder hl
  have e2 := f_check_number (W := W) (k := k + 3) (st := st) h.check_number hj
  have e3 := f_first_mixed (W := W) (k := k + 2) (st := st) h.first_mixed hl hn hj
  have h2m : 2 ≤ maxLen := by simp [maxLen]
  have h1m : 1 ≤ maxLen := by simp [maxLen]
  simp [b_parts_told, e1, e2, e3]
  unfold toldP
  cases firstM n rs j with
  | none => simp [is_opt, h1m]
  | some b =>
    have i0 : cmp2 .is (dInts b) .none = some (.bool false) := rfl
    simp [is_opt, i0, h2m, optD]
def idR (n j i : Nat) : List (Int × Int) := (List.range (n - 1 - i)).map fun (t : Nat) => ((t : Int), (t : Int) + 1)
theorem topR_succ {m j : Nat} : topR m (j + 1) = topR m j ++ (List.range (m - 1 - j)).map fun (t : Nat) => ((t : Int), (t : Int) + 1) := by
  unfold topR
  rw [List.range_succ, List.map_append, List.flatten_append]
  simp
theorem topR_le {m : Nat} : ∀ {j : Nat}, (topR m j).length ≤ j * m
  | 0 => by simp [topR]
  | j + 1 => by
    rw [topR_succ, List.length_append, List.length_map, List.length_range, Nat.succ_mul]
    have := topR_le (m := m) (j := j)
    omega
theorem rngTop {m j : Nat} (hm : m ≤ 8) (h1 : 1 ≤ m) (hj : j ≤ m) : rangeOf [.int ((m : Int) - 1), .int ((m : Int) - 1 - (j : Int)), .int (-1)] = some ((List.range j).map fun (i : Nat) => PyData.int ((m : Int) - 1 - (i : Int))) := by
  rw [rng_down (by omega) (by omega) (by omega) (by omega) (by omega)]
  have e : ((m : Int) - 1 - ((m : Int) - 1 - (j : Int))).toNat = j := by omega
  rw [e]
  unfold rangeStep
  congr 2
  funext i
  congr 1
  omega
theorem f_top_ladder {P : Nat → Option FD} {W k : Nat} {st : Sto} (h : H_top_ladder P) {n j : Nat} (hn : n ≤ 8) (h1 : 1 ≤ n) (hj : j ≤ n) :
    evF P W (k + 4) 691 [.int (n : Int), .int (j : Int)] st = some (.v (dLad n (topR n j)), st) := by
  apply eq_of_wp
  apply w_fn h.p rfl
  have e1 := f_check_many (W := W) (k := k) (st := st) h.check_many (n := (n : Int)) (by omega) (by omega)
  have e2 := f_check_number (W := W) (k := k) (st := st) h.check_number hj
  have r1 := rngTop hn h1 hj
  simp [b_top_ladder, e1, e2, -seqQ_nx]
  rw [seqQ_nx]
  simp [e1, e2, -seqQ_nx]
  rw [seqQ_nx]
  simp [-seqQ_nx]
  rw [seqQ_nx]
  simp [r1, -seqQ_nx]
  refine wp_loop (fun i ρ s => s = st ∧ ∃ x y : Option RV, ρ = [some (.v (.int (n : Int))), some (.v (.int (j : Int))), some (.o ((topR n i).map dR)), x, y]) ⟨rfl, none, none, rfl⟩ ?_ ?_
  · rintro i d ρ s hd ⟨rfl, x, y, rfl⟩
    obtain ⟨i', hi', rfl⟩ := map_at hd
    obtain ⟨hi, rfl⟩ := List.getElem?_eq_some_iff.mp hi'
    simp at hi
    have e : (n : Int) - 1 - (i : Int) = ((n - 1 - i : Nat) : Int) := by omega
    simp only [List.getElem_range, e]
    have hr := rangeOf_nat (n := n - 1 - i) (by omega)
    simp [hr, rangeL, -seqQ_nx]
    refine wp_comp (f := fun (t : Nat) => dR ((t : Int), (t : Int) + 1)) (fun t ht => ?_) ?_
    · simp [dR, maxLen]
    · have hle := topR_le (m := n) (j := i)
      have : i * n ≤ 64 := Nat.mul_le_mul (show i ≤ 8 by omega) hn
      simp [maxLen, topR_succ]
      omega
  · rintro ρ s ⟨rfl, x, y, rfl⟩
    have hle := topR_le (m := n) (j := j)
    have : j * n ≤ 64 := Nat.mul_le_mul (show j ≤ 8 by omega) hn
    rw [seqQ_nx]
    simp [maxLen]
    rfl

def unsL (n : Nat) : List (List Int) := (bitsAll n).filter fun b => !sortedB b
def firstO (n : Nat) (rs : List (Int × Int)) : Option (List Int) := (unsL n).find? fun b => !sortedB (comeL rs b)
theorem f_is_sorted {P : Nat → Option FD} {W k : Nat} {st : Sto} (h : H_is_sorted P) {xs : List Int} (hx : xs.length ≤ 100) : evF P W (k + 1) 477 [dInts xs] st = some (.v (.bool (sortedB xs)), st) := by
  apply eq_of_wp
  apply w_fn h.p rfl
  simp [b_is_sorted, sl_one, zipOf_ints, -List.drop_one]
  refine wp_comp (f := fun p => .bool (decide (p.1 ≤ p.2))) (fun p hp => ?_) ?_
  · simp
  · have hl : (xs.zip (xs.drop 1)).length ≤ maxLen := by simp [maxLen]; omega
    refine ⟨by simpa using hl, ?_⟩
    show wp (blt .all [.list ((xs.zip (xs.drop 1)).map fun p => .bool (decide (p.1 ≤ p.2)))]) _
    rw [b_allG]
    exact wp_some.mpr ⟨rfl, rfl, rfl⟩
theorem f_unsorted_of {P : Nat → Option FD} {W k : Nat} {st : Sto} (h : H_unsorted_of P) {n : Nat} (hn : n ≤ 8) : evF P W (k + 2) 705 [.int (n : Int)] st = some (.o ((unsL n).map dInts), st) := by
  apply eq_of_wp
  apply w_fn h.p rfl
  have e1 := f_bits_of8 (W := W) (k := k) (st := st) h.bits_of hn
  simp [b_unsorted_of, e1]
  refine wp_compIf (e := dInts) (p := fun b => !sortedB b) (f := dInts) (fun b hb => ?_) ?_
  · have e2 := f_is_sorted (W := W) (k := k) (st := st) h.is_sorted (xs := b) (by rw [bits_len hb]; omega)
    cases q : sortedB b <;> simp [e2, q]
  · have : (unsL n).length ≤ 256 := by
      refine Nat.le_trans (List.length_filter_le _ _) ?_
      rw [bitsAll_len]
      exact pow_le8 hn
    have this' : ((unsL n).map dInts).length ≤ maxLen := by rw [List.length_map]; simp only [maxLen]; omega
    refine ⟨this', ?_⟩
    exact ⟨rfl, rfl, rfl⟩
theorem f_first_wrong_outs {P : Nat → Option FD} {W k : Nat} {st : Sto} (h : H_first_wrong_outs P) {n : Nat} {rs : List (Int × Int)} (hl : okL (n : Int) rs) (hn : n ≤ 8) :
    evF P W (k + 3) 748 [dLad n rs] st = some (.v (optD (firstO n rs)), st) := by
  apply eq_of_wp
  apply w_fn h.p rfl
  have e1 := f_unsorted_of (W := W) (k := k) (st := st) h.unsorted_of hn
  simp [b_first_wrong_outs, e1, -seqQ_nx]
  have hmem : ∀ b ∈ unsL n, b.length = n := fun b hb => bits_len (List.mem_filter.mp hb).1
  unfold firstO
  generalize unsL n = l at *
  refine wp_loop (fun i ρ s => s = st ∧ (l.find? fun b => !sortedB (comeL rs b)) = ((l.drop i).find? fun b => !sortedB (comeL rs b)) ∧ ∃ x : Option RV, ρ = [some (.v (dLad n rs)), x]) ⟨rfl, rfl, none, rfl⟩ ?_ ?_
  · rintro i d ρ s hd ⟨rfl, he, x, rfl⟩
    obtain ⟨b, hb, rfl⟩ := map_at hd
    have hi := (List.getElem?_eq_some_iff.mp hb).1
    have hdr : l.drop i = b :: l.drop (i + 1) := by
      rw [List.drop_eq_getElem_cons hi]
      rw [(List.getElem?_eq_some_iff.mp hb).2]
    rw [hdr, List.find?_cons] at he
    have hbl := hmem b (List.mem_of_getElem? hb)
    have hh := hl.hi
    have e2 := f_come_out (W := W) (k := k) (st := s) h.come_out (xs := b) hl.each (by omega) (by omega)
    have e3 := f_is_sorted (W := W) (k := k + 1) (st := s) h.is_sorted (xs := comeL rs b) (by rw [comeL_len]; omega)
    cases q : sortedB (comeL rs b)
    · rw [q] at he e3
      simp at he
      simp [e2, e3, he, optD]
    · rw [q] at he e3
      simp at he
      simp [e2, e3, he, optD]
  · rintro ρ s ⟨rfl, he, x, rfl⟩
    rw [List.length_map, List.drop_length] at he
    rw [seqQ_nx]
    simp [he, optD]
def toldS (n : Nat) (rs : List (Int × Int)) : D := match firstO n rs with
  | none => .tuple [.str "sorts"]
  | some b => .tuple [.str "bits", dInts b]
theorem f_sorts_told {P : Nat → Option FD} {W k : Nat} {st : Sto} (h : H_sorts_told P) {n : Nat} {rs : List (Int × Int)} (hl : okL (n : Int) rs) (hn : n ≤ 8) :
    evF P W (k + 7) 658 [dLad n rs] st = some (.v (toldS n rs), st) := by
  apply eq_of_wp
  apply w_fn h.p rfl
  have e1 := f_check_ladder (W := W) (k := k) (st := st) h.check_ladder hl
  have e3 := f_first_wrong_outs (W := W) (k := k + 3) (st := st) h.first_wrong_outs hl hn
  have h2m : 2 ≤ maxLen := by simp [maxLen]
  have h1m : 1 ≤ maxLen := by simp [maxLen]
  simp [b_sorts_told, e1, e3]
  unfold toldS
  cases firstO n rs with
  | none => simp [is_opt, h1m]
  | some b =>
    have i0 : cmp2 .is (dInts b) .none = some (.bool false) := rfl
    simp [is_opt, i0, h2m, optD]
theorem fl_nats {l : List Nat} : flat (.list (l.map fun i : Nat => PyData.int (i : Int))) = true := fl_sh (n := 1) (sh_list fun d hd => by
  obtain ⟨a, _, rfl⟩ := List.mem_map.mp hd
  exact sh_int) (by omega)

/-! ### pruning, by places -/
def tch (r : Int × Int) (T : List Int) : Prop := r.1 ∈ T ∨ r.2 ∈ T
instance (r : Int × Int) (T : List Int) : Decidable (tch r T) := inferInstanceAs (Decidable (_ ∨ _))
/-- what is kept of rungs with their places, the last rung first -/
def kpL : List ((Int × Int) × Nat) → List Int → List ((Int × Int) × Nat)
  | [], _ => []
  | x :: l, T => if tch x.1 T then x :: kpL l (T ++ [x.1.1, x.1.2]) else kpL l T
def kpT : List ((Int × Int) × Nat) → List Int → List Int
  | [], T => T
  | x :: l, T => if tch x.1 T then kpT l (T ++ [x.1.1, x.1.2]) else kpT l T
theorem kpL_sub : ∀ {l : List ((Int × Int) × Nat)} {T : List Int}, (kpL l T).Sublist l
  | [], _ => .slnil
  | x :: l, T => by
    unfold kpL
    split
    · exact kpL_sub.cons_cons x
    · exact kpL_sub.cons x
theorem kpL_pk : ∀ {l : List ((Int × Int) × Nat)} {S T : List Int}, (∀ x, x ∈ S ↔ x ∈ T) → (kpL l T).map (·.1) = pk (l.map (·.1)) S
  | [], _, _, _ => rfl
  | x :: l, S, T, h => by
    have hc : tch x.1 T ↔ (x.1.1 ∈ S ∨ x.1.2 ∈ S) := by unfold tch; rw [h, h]
    rw [List.map_cons, pk_cons]
    unfold kpL
    by_cases q : tch x.1 T
    · rw [if_pos q, if_pos (hc.mp q), List.map_cons, kpL_pk (S := grow S x.1) fun y => ?_]
      rw [grow_mem, List.mem_append, h]
      simp
    · rw [if_neg q, if_neg fun z => q (hc.mpr z)]
      exact kpL_pk h
theorem kpL_tch : ∀ {l : List ((Int × Int) × Nat)} {T : List Int} {x : (Int × Int) × Nat}, x ∈ l → tch x.1 T → x ∈ kpL l T
  | [], _, _, h, _ => h
  | y :: l, T, x, h, ht => by
    unfold kpL
    rcases List.mem_cons.mp h with rfl | h
    · rw [if_pos ht]; exact List.mem_cons_self ..
    · split
      · refine List.mem_cons_of_mem _ (kpL_tch h ?_)
        exact ht.imp (fun z => List.mem_append_left _ z) fun z => List.mem_append_left _ z
      · exact kpL_tch h ht
/-- rungs at one track with a kept one, ahead of it, are kept -/
theorem kpL_clo : ∀ {l : List ((Int × Int) × Nat)} {T : List Int} {x y : (Int × Int) × Nat}, l.Pairwise (fun a b => b.2 < a.2) → x ∈ kpL l T → y ∈ l → y.2 < x.2 → tch y.1 [x.1.1, x.1.2] → y ∈ kpL l T
  | [], _, _, _, _, h, _, _, _ => by simp [kpL] at h
  | z :: l, T, x, y, hp, hx, hy, hlt, ht => by
    have hp' := List.pairwise_cons.mp hp
    unfold kpL at hx ⊢
    have tail : ∀ {T : List Int}, x ∈ kpL l T → y ∈ kpL l T := fun {T} hx => by
      have hxl : x ∈ l := kpL_sub.subset hx
      rcases List.mem_cons.mp hy with rfl | hy
      · have := hp'.1 x hxl; omega
      · exact kpL_clo hp'.2 hx hy hlt ht
    split at hx
    · rename_i hz
      rw [if_pos hz]
      rcases List.mem_cons.mp hx with rfl | hx
      · rcases List.mem_cons.mp hy with rfl | hy
        · omega
        · refine List.mem_cons_of_mem _ (kpL_tch hy ?_)
          exact ht.imp (fun z => List.mem_append_right _ z) fun z => List.mem_append_right _ z
      · exact List.mem_cons_of_mem _ (tail hx)
    · rename_i hz
      rw [if_neg hz]
      exact tail hx
def rvz (rs : List (Int × Int)) : List ((Int × Int) × Nat) := rs.zipIdx.reverse
theorem zip_up {α : Type} : ∀ (l : List α) (k : Nat), (l.zipIdx k).Pairwise (fun a b => a.2 < b.2)
  | [], _ => .nil
  | x :: l, k => by
    rw [List.zipIdx_cons, List.pairwise_cons]
    refine ⟨fun y hy => ?_, zip_up l (k + 1)⟩
    have := (List.mem_zipIdx hy).1
    show k < y.2
    omega
theorem rvz_up (rs : List (Int × Int)) : (rvz rs).Pairwise (fun a b => b.2 < a.2) := by
  unfold rvz
  rw [List.pairwise_reverse]
  exact zip_up rs 0
theorem rvz_mem {rs : List (Int × Int)} {x : (Int × Int) × Nat} : x ∈ rvz rs ↔ rs[x.2]? = some x.1 := by
  unfold rvz
  rw [List.mem_reverse]
  exact List.mem_zipIdx_iff_getElem?
theorem rvz_fst (rs : List (Int × Int)) : (rvz rs).map (·.1) = rs.reverse := by
  unfold rvz
  rw [List.map_reverse]
  congr 1
  rw [List.zipIdx_map_fst]
/-- the places that are kept, ascending -/
def dueL (rs : List (Int × Int)) (S : List Int) : List Nat := ((kpL (rvz rs) S).map (·.2)).reverse
theorem due_up (rs : List (Int × Int)) (S : List Int) : (dueL rs S).Pairwise (· < ·) := by
  unfold dueL
  rw [List.pairwise_reverse]
  exact (List.Pairwise.sublist kpL_sub (rvz_up rs)).map _ fun a b h => h
theorem due_mem {rs : List (Int × Int)} {S : List Int} {p : Nat} : p ∈ dueL rs S ↔ ∃ r, (r, p) ∈ kpL (rvz rs) S := by
  unfold dueL
  rw [List.mem_reverse, List.mem_map]
  constructor
  · rintro ⟨⟨r, q⟩, h, rfl⟩; exact ⟨r, h⟩
  · rintro ⟨r, h⟩; exact ⟨_, h, rfl⟩
theorem due_lt {rs : List (Int × Int)} {S : List Int} {p : Nat} (h : p ∈ dueL rs S) : p < rs.length := by
  obtain ⟨r, h⟩ := due_mem.mp h
  have := rvz_mem.mp (kpL_sub.subset h)
  exact (List.getElem?_eq_some_iff.mp this).1
theorem due_rungs (rs : List (Int × Int)) (S : List Int) : (dueL rs S).map (fun p => rs.getD p (0, 0)) = (pk rs.reverse S).reverse := by
  unfold dueL
  rw [← rvz_fst rs, ← kpL_pk (T := S) fun _ => Iff.rfl, ← List.map_reverse, ← List.map_reverse, List.map_map]
  refine List.map_congr_left fun x hx => ?_
  have := rvz_mem.mp (kpL_sub.subset (List.mem_reverse.mp hx))
  show rs.getD x.2 (0, 0) = x.1
  rw [List.getD_eq_getElem?_getD, this]
  rfl
theorem due_clo {rs : List (Int × Int)} {S : List Int} {p q : Nat} (hp : p ∈ dueL rs S) (hq : q < p) (ht : tch (rs.getD q (0, 0)) [(rs.getD p (0, 0)).1, (rs.getD p (0, 0)).2]) : q ∈ dueL rs S := by
  obtain ⟨r, hr⟩ := due_mem.mp hp
  have h1 := rvz_mem.mp (kpL_sub.subset hr)
  have hpl := due_lt hp
  have hql : q < rs.length := by omega
  have e1 : rs.getD p (0, 0) = r := by
    dsimp only at h1
    rw [List.getD_eq_getElem?_getD, h1]; rfl
  have e2 : rs[q]? = some (rs.getD q (0, 0)) := by
    rw [List.getD_eq_getElem?_getD, List.getElem?_eq_getElem hql]; rfl
  rw [e1] at ht
  exact due_mem.mpr ⟨rs.getD q (0, 0), kpL_clo (y := (rs.getD q (0, 0), q)) (rvz_up rs) hr (rvz_mem.mpr e2) hq ht⟩
/-! ### pairs that are known behind a ladder -/
def knP (n : Nat) (rs : List (Int × Int)) (a b : Nat) : Bool := !decide (a = b) && !((bitsAll n).any fun x => decide (gI (comeL rs x) (a : Int) > gI (comeL rs x) (b : Int)))
def knL (n : Nat) (rs : List (Int × Int)) : List (Nat × Nat) := ((List.range n).map fun a => ((List.range n).filter fun b => knP n rs a b).map fun b => (a, b)).flatten
theorem knL_len {n : Nat} {rs : List (Int × Int)} : (knL n rs).length ≤ n * n := by
  unfold knL
  have : ∀ l : List Nat, (l.map fun a => ((List.range n).filter fun b => knP n rs a b).map fun b => (a, b)).flatten.length ≤ l.length * n := by
    intro l
    induction l with
    | nil => simp
    | cons a r ih =>
      rw [List.map_cons, List.flatten_cons, List.length_append, List.length_map, List.length_cons, Nat.succ_mul]
      have := List.length_filter_le (fun b => knP n rs a b) (List.range n)
      rw [List.length_range] at this
      omega
  have := this (List.range n)
  rwa [List.length_range] at this
theorem knL_eq {n : Nat} {rs : List (Int × Int)} {S : List Int} (hl : ∀ r ∈ rs, okR (n : Int) r) : (knL n rs).filter (fun p => decide ((p.1 : Int) ∈ S) && decide ((p.2 : Int) ∈ S)) = (knL n (pk rs.reverse S).reverse).filter (fun p => decide ((p.1 : Int) ∈ S) && decide ((p.2 : Int) ∈ S)) := by
  unfold knL
  have key : ∀ a b : Nat, a < n → b < n → (a : Int) ∈ S → (b : Int) ∈ S → knP n rs a b = knP n (pk rs.reverse S).reverse a b := fun a b ha hb h1 h2 => by
    unfold knP
    congr 2
    rw [Bool.eq_iff_iff, List.any_eq_true, List.any_eq_true]
    have e : ∀ x ∈ bitsAll n, ∀ c : Nat, c < n → (c : Int) ∈ S → gI (comeL (pk rs.reverse S).reverse x) (c : Int) = gI (comeL rs x) (c : Int) := fun x hx c hc hS => by
      have := pk_come (l := rs.reverse) (S := S) (xs := x) (n := n) (fun r hr => hl r (List.mem_reverse.mp hr)) (by rw [bits_len hx]) (c : Int) hS (by omega) (by omega)
      rw [List.reverse_reverse] at this
      exact this
    constructor
    · rintro ⟨x, hx, h⟩
      exact ⟨x, hx, by rw [e x hx a ha h1, e x hx b hb h2]; exact h⟩
    · rintro ⟨x, hx, h⟩
      exact ⟨x, hx, by rw [e x hx a ha h1, e x hx b hb h2] at h; exact h⟩
  rw [List.filter_flatten, List.filter_flatten, List.map_map, List.map_map]
  congr 1
  refine List.map_congr_left fun a ha => ?_
  have ha' := List.mem_range.mp ha
  show List.filter _ (List.map _ _) = List.filter _ (List.map _ _)
  rw [List.filter_map, List.filter_map, List.filter_filter, List.filter_filter]
  congr 1
  refine List.filter_congr fun b hb => ?_
  have hb' := List.mem_range.mp hb
  show ((decide ((a : Int) ∈ S) && decide ((b : Int) ∈ S)) && knP n rs a b) = ((decide ((a : Int) ∈ S) && decide ((b : Int) ∈ S)) && knP n (pk rs.reverse S).reverse a b)
  by_cases h1 : (a : Int) ∈ S
  · by_cases h2 : (b : Int) ∈ S
    · rw [key a b ha' hb' h1 h2]
    · simp [h2]
  · simp [h1]
theorem psn_sup : ∀ {l : List (Int × Int)} {S : List Int} {x : Int}, x ∈ S → x ∈ psn l S
  | [], _, _, h => h
  | r :: l, S, x, h => by
    unfold psn
    split
    · exact psn_sup (grow_mem.mpr (.inl h))
    · exact psn_sup h
/-! ### idle rungs, thinned ladders -/
def exB (n : Nat) (rs : List (Int × Int)) (p : Nat) (b : List Int) : Bool := decide (gI (comeL (rs.take p) b) (rs.getD p (0, 0)).1 > gI (comeL (rs.take p) b) (rs.getD p (0, 0)).2)
def firstX (n : Nat) (rs : List (Int × Int)) (p : Nat) : Option (List Int) := (bitsAll n).find? fun b => exB n rs p b
def idleB (n : Nat) (rs : List (Int × Int)) (p : Nat) : Bool := (firstX n rs p).isNone
def idleL (n : Nat) (rs : List (Int × Int)) : List Nat := (List.range rs.length).filter fun p => idleB n rs p
/-- without the rungs at places -/
def lessB (rs : List (Int × Int)) (f : Nat → Bool) : List (Int × Int) := (rs.zipIdx.filter fun q => !f q.2).map (·.1)
theorem take_snoc {rs : List (Int × Int)} {p : Nat} (h : p < rs.length) : rs.take (p + 1) = rs.take p ++ [rs.getD p (0, 0)] := by
  rw [List.take_add_one, List.getElem?_eq_getElem h, List.getD_eq_getElem?_getD, List.getElem?_eq_getElem h]
  rfl
theorem idle_pass {n : Nat} {rs : List (Int × Int)} {p : Nat} (hp : p < rs.length) (hi : idleB n rs p = true) {b : List Int} (hb : b ∈ bitsAll n) : comeL (rs.take (p + 1)) b = comeL (rs.take p) b := by
  unfold idleB firstX at hi
  rw [Option.isNone_iff_eq_none, List.find?_eq_none] at hi
  have h1 := hi b hb
  unfold exB at h1
  rw [decide_eq_true_eq] at h1
  rw [take_snoc hp, come_snoc]
  unfold passL
  rw [if_pos (by omega)]
theorem lessB_snoc {rs : List (Int × Int)} {r : Int × Int} {f : Nat → Bool} : lessB (rs ++ [r]) f = if f rs.length then lessB rs f else lessB rs f ++ [r] := by
  unfold lessB
  rw [List.zipIdx_append, List.filter_append, List.map_append]
  simp only [List.zipIdx_cons, List.zipIdx_nil, Nat.zero_add]
  by_cases h : f rs.length = true
  · rw [if_pos h, List.filter_cons_of_neg (by simp [h])]
    simp
  · rw [if_neg h, List.filter_cons_of_pos (by simpa using h)]
    simp
/-- idle ones left out, the same comes out -/
theorem bare_come {n : Nat} {rs : List (Int × Int)} {b : List Int} (hb : b ∈ bitsAll n) : ∀ k, k ≤ rs.length → comeL (lessB (rs.take k) (idleB n rs)) b = comeL (rs.take k) b
  | 0, _ => rfl
  | k + 1, h => by
    have hk : k < rs.length := by omega
    have ih := bare_come (n := n) (rs := rs) hb k (by omega)
    have hl : (rs.take k).length = k := by rw [List.length_take]; omega
    rw [take_snoc hk, lessB_snoc, hl]
    by_cases q : idleB n rs k = true
    · rw [if_pos q, ih, ← take_snoc hk, idle_pass hk q hb]
    · rw [if_neg q, come_snoc, come_snoc, ih]
theorem lessB_len {rs : List (Int × Int)} {f : Nat → Bool} : (lessB rs f).length = ((List.range rs.length).filter fun p => !f p).length := by
  unfold lessB
  rw [List.length_map, ← List.countP_eq_length_filter, ← List.countP_eq_length_filter]
  have : ∀ (rs : List (Int × Int)) (k : Nat), (rs.zipIdx k).countP (fun q => !f q.2) = (List.range' k rs.length).countP fun p => !f p := by
    intro rs
    induction rs with
    | nil => intro k; rfl
    | cons x r ih =>
      intro k
      rw [List.zipIdx_cons, List.length_cons, List.range'_succ, List.countP_cons, List.countP_cons, ih (k + 1)]
  rw [this rs 0, List.range_eq_range']
def nonIdle (n : Nat) (rs : List (Int × Int)) (p : Nat) : Nat := ((List.range' p (rs.length - p)).filter fun q => !idleB n rs q).length
theorem nonIdle_step {n : Nat} {rs : List (Int × Int)} {p : Nat} (h : p < rs.length) : nonIdle n rs p = (if idleB n rs p then 0 else 1) + nonIdle n rs (p + 1) := by
  unfold nonIdle
  have e : rs.length - p = (rs.length - (p + 1)) + 1 := by omega
  rw [e, List.range'_succ]
  by_cases q : idleB n rs p = true
  · rw [if_pos q, List.filter_cons_of_neg (by simp [q])]; omega
  · rw [if_neg q, List.filter_cons_of_pos (by simpa using q), List.length_cons]; omega
theorem come_app {a b : List (Int × Int)} {xs : List Int} : comeL (a ++ b) xs = comeL b (comeL a xs) := by
  unfold comeL; rw [List.foldl_append]
theorem sorts_all {n : Nat} {rs : List (Int × Int)} (hl : ∀ r ∈ rs, okR (n : Int) r) : (firstO n rs).isNone = true ↔ ∀ b ∈ bitsAll n, sortedB (comeL rs b) = true := by
  rw [Option.isNone_iff_eq_none]
  unfold firstO unsL
  rw [List.find?_eq_none]
  constructor
  · intro h b hb
    by_cases q : sortedB b = true
    · have e : sortI b = b := by rw [sortedB_sort, decide_eq_true_eq] at q; exact q.symm
      have hrise : risesL b := by have := sortI_rises b; rw [e] at this; exact this
      rw [come_rises (n := (n : Int)) hrise (by have := bits_len hb; omega) hl]
      exact q
    · have := h b (List.mem_filter.mpr ⟨hb, by simpa using q⟩)
      simpa using this
  · intro h b hb
    have := h b (List.mem_filter.mp hb).1
    rw [this]
    decide

@[simp] theorem look_dRs {s : Sto} {rs : List (Int × Int)} : look s (dRs rs) = dRs rs := (rfl)
theorem do_touch_b {r q : Int × Int} : decide (tch r [q.1, q.2]) = (decide (r.1 ∈ [q.1, q.2]) || decide (r.2 ∈ [q.1, q.2])) := by
  by_cases a : r.1 ∈ [q.1, q.2] <;> by_cases b : r.2 ∈ [q.1, q.2]
  · rw [decide_eq_true a, decide_eq_true b, decide_eq_true (show tch r _ from .inl a)]; rfl
  · rw [decide_eq_true a, decide_eq_false b, decide_eq_true (show tch r _ from .inl a)]; rfl
  · rw [decide_eq_false a, decide_eq_true b, decide_eq_true (show tch r _ from .inr b)]; rfl
  · rw [decide_eq_false a, decide_eq_false b, decide_eq_false (show ¬ tch r _ from fun z => z.elim a b)]; rfl
theorem f_do_touch {P : Nat → Option FD} {W k : Nat} {st : Sto} (h : H_do_touch P) {r q : Int × Int} : evF P W (k + 1) 376 [dR r, dR q] st = some (.v (.bool (decide (tch r [q.1, q.2]))), st) := by
  apply eq_of_wp
  apply w_fn h.p rfl
  have e1 : ∀ a : Int, cmp2 .isin (.int a) (.tuple [.int q.1, .int q.2]) = some (.bool (decide (a ∈ [q.1, q.2]))) := fun a => c_inT (xs := [q.1, q.2]) (a := a)
  rw [do_touch_b]
  have e2 := e1 r.1
  have e3 := e1 r.2
  generalize decide (r.2 ∈ [q.1, q.2]) = B at *
  generalize decide (r.1 ∈ [q.1, q.2]) = A at *
  cases A <;> simp [b_do_touch, dR, e2, e3]
theorem f_check_place_shifts {P : Nat → Option FD} {W k : Nat} {st : Sto} (h : H_check_place_shifts P) {n : Int} {rs : List (Int × Int)} {p : Nat} (hl : okL n rs) (hp : p < rs.length) : evF P W (k + 7) 740 [dLad n rs, .int (p : Int)] st = some (.v .none, st) := by
  apply eq_of_wp
  apply w_fn h.p rfl
  have e1 := f_check_ladder (W := W) (k := k) (st := st) h.check_ladder hl
  have e3 := f_is_between (W := W) (k := k + 4) (st := st) h.is_between (d := .int (p : Int)) (lo := 0) (hi := (rs.length : Int) - 1) rfl
  have b1 : btw 0 ((rs.length : Int) - 1) (.int (p : Int)) = true := by simp; omega
  rw [b1] at e3
  have e4 : blt .len [dRs rs] = some (.v (.int (rs.length : Int))) := by simp [dRs]
  simp [b_check_place_shifts, e1, -seqQ_nx]
  rw [seqQ_nx]
  simp [e4, e3]
theorem f_check_place_knowing {P : Nat → Option FD} {W k : Nat} {st : Sto} (h : H_check_place_knowing P) {n : Int} {rs : List (Int × Int)} {p : Nat} (hl : okL n rs) (hp : p ≤ rs.length) : evF P W (k + 7) 739 [dLad n rs, .int (p : Int)] st = some (.v .none, st) := by
  apply eq_of_wp
  apply w_fn h.p rfl
  have e1 := f_check_ladder (W := W) (k := k) (st := st) h.check_ladder hl
  have e3 := f_is_between (W := W) (k := k + 4) (st := st) h.is_between (d := .int (p : Int)) (lo := 0) (hi := (rs.length : Int)) rfl
  have b1 : btw 0 (rs.length : Int) (.int (p : Int)) = true := by simp; omega
  rw [b1] at e3
  have e4 : blt .len [dRs rs] = some (.v (.int (rs.length : Int))) := by simp [dRs]
  simp [b_check_place_knowing, e1, -seqQ_nx]
  rw [seqQ_nx]
  simp [e4, e3]
theorem rung_at {rs : List (Int × Int)} {p : Nat} (h : p < rs.length) : sub2 (dRs rs) (.int (p : Int)) = some (dR (rs.getD p (0, 0))) := by
  show L2.atI (rs.map dR) (p : Int) = _
  rw [atI_nat, List.getElem?_map, List.getElem?_eq_getElem h, List.getD_eq_getElem?_getD, List.getElem?_eq_getElem h]
  rfl
/-- the forerunners of a place: places ahead, within a set that is closed -/
theorem f_ahead_of {P : Nat → Option FD} {W k : Nat} {st : Sto} (h : H_ahead_of P) {n : Int} {rs : List (Int × Int)} {p : Nat} {K : List Nat} (hl : okL n rs) (hp : p < rs.length) (hK : p ∈ K) (hc : ∀ a b, a ∈ K → b < a → tch (rs.getD b (0, 0)) [(rs.getD a (0, 0)).1, (rs.getD a (0, 0)).2] → b ∈ K) :
    ∃ fs : List Nat, (∀ f ∈ fs, f ∈ K) ∧ fs.length ≤ 80 ∧ evF P W (k + 2) 251 [dLad n rs, .int (p : Int)] st = some (.o (fs.map fun (i : Nat) => PyData.int (i : Int)), st) := by
  suffices hw : wp (evF P W (k + 2) 251 [dLad n rs, .int (p : Int)] st) (fun r => ∃ fs : List Nat, (∀ f ∈ fs, f ∈ K) ∧ fs.length ≤ 80 ∧ r = (.o (fs.map fun (i : Nat) => PyData.int (i : Int)), st)) by
    obtain ⟨r, e, fs, h1, h2, rfl⟩ := hw
    exact ⟨fs, h1, h2, e⟩
  apply w_fn h.p rfl
  have hll := hl.len
  have r1 : rangeOf [.int ((p : Int) - 1), .int (-1), .int (-1)] = some ((List.range p).map fun (i : Nat) => PyData.int ((p : Int) - 1 - (i : Int))) := by
    rw [rng_down (by omega) (by omega) (by omega) (by omega) (by omega)]
    have e : ((p : Int) - 1 - (-1)).toNat = p := by omega
    rw [e]
    unfold rangeStep
    congr 2
    funext i
    congr 1
    omega
  simp [b_ahead_of, maxLen, -seqQ_nx]
  rw [seqQ_nx]
  simp [r1, -seqQ_nx]
  refine wp_loop (fun i ρ s => s = st ∧ ∃ (fs : List Nat) (x y : Option RV), ρ = [some (.v (dLad n rs)), some (.v (.int (p : Int))), some (.o ((p :: fs).map fun (i : Nat) => PyData.int (i : Int))), x, y] ∧ (∀ f ∈ fs, f ∈ K ∧ p - i ≤ f ∧ f < rs.length) ∧ fs.length ≤ i) ⟨rfl, [], none, none, rfl, by simp, by simp⟩ ?_ ?_
  · rintro i d ρ s hd ⟨rfl, fs, x, y, rfl, hf, hfl⟩
    obtain ⟨i', hi', rfl⟩ := map_at hd
    obtain ⟨hi, rfl⟩ := List.getElem?_eq_some_iff.mp hi'
    simp at hi
    obtain ⟨a, ha⟩ : ∃ a : Nat, a = p - 1 - i := ⟨_, rfl⟩
    have e : (p : Int) - 1 - (i : Int) = (a : Int) := by omega
    simp only [List.getElem_range, e]
    have hal : a < rs.length := by omega
    have hall : ∀ f ∈ p :: fs, f ∈ K ∧ p - i ≤ f ∧ f < rs.length := fun f hf' => by
      rcases List.mem_cons.mp hf' with rfl | hf'
      · exact ⟨hK, by omega, hp⟩
      · exact hf f hf'
    have hfl' : (p :: fs).length ≤ 81 := by rw [List.length_cons]; omega
    have er : sub2 (dRs rs) (.int (a : Int)) = some (dR (rs.getD a (0, 0))) := rung_at hal
    have et : dRs rs = .tuple (rs.map dR) := rfl
    have erA : L2.atI (rs.map dR) (a : Int) = some (dR (rs.getD a (0, 0))) := er
    simp [-seqQ_nx, -List.map_cons]
    refine wp_comp (e := fun (i : Nat) => PyData.int (i : Int)) (f := fun f => PyData.bool (decide (tch (rs.getD a (0, 0)) [(rs.getD f (0, 0)).1, (rs.getD f (0, 0)).2]))) (fun f hf' => ?_) ?_
    · have h1 := (hall f hf').2.2
      have erf : sub2 (dRs rs) (.int (f : Int)) = some (dR (rs.getD f (0, 0))) := rung_at h1
      have ed := f_do_touch (W := W) (k := k) (st := s) h.do_touch (r := rs.getD a (0, 0)) (q := rs.getD f (0, 0))
      have lk : look s (dRs rs) = dRs rs := rfl
      simp [lk, er, erf, ed, -List.getD_eq_getElem?_getD]
    · refine ⟨by rw [List.length_map]; simp only [maxLen]; omega, ?_⟩
      have ea : blt .any [.list ((p :: fs).map fun f => PyData.bool (decide (tch (rs.getD a (0, 0)) [(rs.getD f (0, 0)).1, (rs.getD f (0, 0)).2])))] = some (.v (.bool ((p :: fs).any fun f => decide (tch (rs.getD a (0, 0)) [(rs.getD f (0, 0)).1, (rs.getD f (0, 0)).2])))) := b_anyG _
      simp only [d_o, ea, wp_some, d_v]
      cases q : ((p :: fs).any fun f => decide (tch (rs.getD a (0, 0)) [(rs.getD f (0, 0)).1, (rs.getD f (0, 0)).2])) with
      | false =>
        simp [-List.map_cons]
        exact ⟨fs, rfl, fun f hf' => ⟨(hf f hf').1, by have := (hf f hf').2.1; omega, (hf f hf').2.2⟩, by omega⟩
      | true =>
        obtain ⟨f, hf1, hf2⟩ := List.any_eq_true.mp q
        have hk := hall f hf1
        have haK : a ∈ K := hc f a hk.1 (by omega) (of_decide_eq_true hf2)
        have hlm : fs.length + 1 < maxLen := by simp only [maxLen]; omega
        simp [hlm, -List.map_cons]
        refine ⟨fs ++ [a], by simp, fun f hf' => ?_, by simp; omega⟩
        rcases List.mem_append.mp hf' with hf' | hf'
        · exact ⟨(hf f hf').1, by have := (hf f hf').2.1; omega, (hf f hf').2.2⟩
        · rw [List.mem_singleton] at hf'; subst hf'; exact ⟨haK, by omega, hal⟩
  · rintro ρ s ⟨rfl, fs, x, y, rfl, hf, hfl⟩
    rw [List.length_map, List.length_range] at hfl
    rw [seqQ_nx]
    have i1 : asInt? (some (.int 1)) = some (some 1) := ai_i (by omega) (by omega)
    have t1 : sl3 (.list ((p :: fs).map fun (i : Nat) => PyData.int (i : Int))) (some (.int 1)) none = some (.o (fs.map fun (i : Nat) => PyData.int (i : Int))) := by
      rw [sl_l i1 ai_n, cut_drop (by omega)]
      rfl
    have ei : (fs.map fun (i : Nat) => PyData.int (i : Int)) = (fs.map fun (i : Nat) => (i : Int)).map PyData.int := by rw [List.map_map]; rfl
    have bs : blt .sorted [.list (fs.map fun (i : Nat) => PyData.int (i : Int))] = some (.o ((sortI (fs.map fun (i : Nat) => (i : Int))).map .int)) := by
      rw [ei]
      exact b_sortL (by rw [List.length_map]; simp only [maxLen]; omega)
    simp only [List.map_cons] at t1
    simp [t1, bs]
    have hperm := sortI_perm (fs.map fun (i : Nat) => (i : Int))
    refine ⟨(sortI (fs.map fun (i : Nat) => (i : Int))).map Int.toNat, fun f hf' => ?_, ?_, ?_⟩
    · obtain ⟨x, hx, rfl⟩ := List.mem_map.mp hf'
      obtain ⟨g, hg, rfl⟩ := List.mem_map.mp (hperm.mem_iff.mp hx)
      simpa using (hf g hg).1
    · rw [List.length_map, hperm.length_eq, List.length_map]; omega
    · rw [List.map_map]
      refine List.map_congr_left fun x hx => ?_
      obtain ⟨g, hg, rfl⟩ := List.mem_map.mp (hperm.mem_iff.mp hx)
      simp
theorem f_forerunners {P : Nat → Option FD} {W k : Nat} {st : Sto} (h : H_forerunners P) {n : Int} {rs : List (Int × Int)} {p : Nat} {K : List Nat} (hl : okL n rs) (hp : p < rs.length) (hK : p ∈ K) (hc : ∀ a b, a ∈ K → b < a → tch (rs.getD b (0, 0)) [(rs.getD a (0, 0)).1, (rs.getD a (0, 0)).2] → b ∈ K) :
    ∃ fs : List Nat, (∀ f ∈ fs, f ∈ K) ∧ fs.length ≤ 80 ∧ evF P W (k + 8) 425 [dLad n rs, .int (p : Int)] st = some (.v (.tuple (fs.map fun (i : Nat) => PyData.int (i : Int))), st) := by
  obtain ⟨fs, h1, h2, e⟩ := f_ahead_of (W := W) (k := k + 5) (st := st) h.ahead_of hl hp hK hc
  refine ⟨fs, h1, h2, ?_⟩
  apply eq_of_wp
  apply w_fn h.p rfl
  have e1 := f_check_place_shifts (W := W) (k := k) (st := st) h.check_place_shifts hl hp
  have hm : fs.length ≤ maxLen := by simp only [maxLen]; omega
  simp [b_forerunners, e1, e, hm]
theorem f_does_sort {P : Nat → Option FD} {W k : Nat} {st : Sto} (h : H_does_sort P) {n : Nat} {rs : List (Int × Int)} (hl : okL (n : Int) rs) (hn : n ≤ 8) : evF P W (k + 4) 379 [dLad n rs] st = some (.v (.bool (firstO n rs).isNone), st) := by
  apply eq_of_wp
  apply w_fn h.p rfl
  have e1 := f_first_wrong_outs (W := W) (k := k) (st := st) h.first_wrong_outs hl hn
  simp [b_does_sort, e1, is_opt]
def firstU (n : Nat) (rs qs : List (Int × Int)) : Option (List Int) := (bitsAll n).find? fun b => !decide (comeL rs b = comeL qs b)
theorem f_first_unlike {P : Nat → Option FD} {W k : Nat} {st : Sto} (h : H_first_unlike P) {n : Nat} {rs qs : List (Int × Int)} (hl : okL (n : Int) rs) (hq : okL (n : Int) qs) (hn : n ≤ 8) :
    evF P W (k + 3) 417 [dLad n rs, dLad n qs] st = some (.v (optD (firstU n rs qs)), st) := by
  apply eq_of_wp
  apply w_fn h.p rfl
  have e1 := f_bits_of8 (W := W) (k := k + 1) (st := st) h.bits_of hn
  simp [b_first_unlike, e1, -seqQ_nx]
  have hmem : ∀ b ∈ bitsAll n, b.length = n := fun b hb => bits_len hb
  unfold firstU
  generalize bitsAll n = l at *
  refine wp_loop (fun i ρ s => s = st ∧ (l.find? fun b => !decide (comeL rs b = comeL qs b)) = ((l.drop i).find? fun b => !decide (comeL rs b = comeL qs b)) ∧ ∃ x : Option RV, ρ = [some (.v (dLad n rs)), some (.v (dLad n qs)), x]) ⟨rfl, rfl, none, rfl⟩ ?_ ?_
  · rintro i d ρ s hd ⟨rfl, he, x, rfl⟩
    obtain ⟨b, hb, rfl⟩ := map_at hd
    have hi := (List.getElem?_eq_some_iff.mp hb).1
    have hdr : l.drop i = b :: l.drop (i + 1) := by
      rw [List.drop_eq_getElem_cons hi]
      rw [(List.getElem?_eq_some_iff.mp hb).2]
    rw [hdr, List.find?_cons] at he
    have hbl := hmem b (List.mem_of_getElem? hb)
    have hh := hl.hi
    have e2 := f_come_out (W := W) (k := k) (st := s) h.come_out (xs := b) hl.each (by omega) (by omega)
    have e3 := f_come_out (W := W) (k := k) (st := s) h.come_out (xs := b) hq.each (by omega) (by omega)
    by_cases q : comeL rs b = comeL qs b
    · simp [q] at he
      simp [e2, e3, c_ne, fl_ints, eqv_ints, q, he]
    · simp [q] at he
      simp [e2, e3, c_ne, fl_ints, eqv_ints, q, he, optD]
  · rintro ρ s ⟨rfl, he, x, rfl⟩
    rw [List.length_map, List.drop_length] at he
    rw [seqQ_nx]
    simp [he, optD]
theorem f_check_two {P : Nat → Option FD} {W k : Nat} {st : Sto} (h : H_check_two P) {n : Nat} {rs qs : List (Int × Int)} (hl : okL (n : Int) rs) (hq : okL (n : Int) qs) : evF P W (k + 7) 344 [dLad n rs, dLad n qs] st = some (.v .none, st) := by
  apply eq_of_wp
  apply w_fn h.p rfl
  have e1 := f_check_ladder (W := W) (k := k) (st := st) h.check_ladder hl
  have e2 := f_check_ladder (W := W) (k := k) (st := st) h.check_ladder hq
  simp [b_check_two, e1, e2, c_ne, cast_eqv]
theorem f_same_outs {P : Nat → Option FD} {W k : Nat} {st : Sto} (h : H_same_outs P) {n : Nat} {rs qs : List (Int × Int)} (hl : okL (n : Int) rs) (hq : okL (n : Int) qs) (hn : n ≤ 8) (hs : ∀ b ∈ bitsAll n, comeL rs b = comeL qs b) :
    evF P W (k + 8) 599 [dLad n rs, dLad n qs] st = some (.v (.tuple [.str "same"]), st) := by
  apply eq_of_wp
  apply w_fn h.p rfl
  have e1 := f_check_two (W := W) (k := k) (st := st) h.check_two hl hq
  have e2 := f_first_unlike (W := W) (k := k + 4) (st := st) h.first_unlike hl hq hn
  have e3 : firstU n rs qs = none := by
    unfold firstU
    rw [List.find?_eq_none]
    intro b hb
    rw [hs b hb]
    simp
  rw [e3] at e2
  have h1m : 1 ≤ maxLen := by simp [maxLen]
  have i0 : cmp2 .is (optD none) .none = some (.bool true) := rfl
  simp [b_same_outs, e1, e2, i0, h1m]
theorem f_does_exchange {P : Nat → Option FD} {W k : Nat} {st : Sto} (h : H_does_exchange P) {n p : Nat} {rs : List (Int × Int)} {b : List Int} (hl : okL (n : Int) rs) (hp : p < rs.length) (hb : b.length = n) :
    evF P W (k + 3) 377 [dLad n rs, .int (p : Int), dInts b] st = some (.v (.bool (exB n rs p b)), st) := by
  apply eq_of_wp
  apply w_fn h.p rfl
  have hh := hl.hi
  have hll := hl.len
  have er : sub2 (dRs rs) (.int (p : Int)) = some (dR (rs.getD p (0, 0))) := rung_at hp
  have hrm : rs.getD p (0, 0) ∈ rs := by
    rw [List.getD_eq_getElem?_getD, List.getElem?_eq_getElem hp]; exact List.getElem_mem _
  obtain ⟨r1, r2, r3⟩ := hl.each _ hrm
  have e1 := f_come_out (W := W) (k := k) (st := st) h.come_out (rs := rs.take p) (xs := b) (fun r hr => hl.each r (List.mem_of_mem_take hr)) (by omega) (by omega)
  have t1 : sl3 (dRs rs) none (some (.int (p : Int))) = some (.v (dRs (rs.take p))) := by
    have := sl_t (xs := rs.map dR) (lo := none) (hi := some (.int (p : Int))) ai_n (ai_i (by omega) (by omega))
    rw [cut_take (by omega), Int.toNat_natCast, ← List.map_take] at this
    exact this
  unfold exB
  generalize rs.getD p (0, 0) = r at *
  have hcl := comeL_len (rs.take p) b
  have g1 : sub2 (dInts (comeL (rs.take p) b)) (.int r.1) = some (.int (gI (comeL (rs.take p) b) r.1)) := atI_ints r1 (by omega)
  have g2 : sub2 (dInts (comeL (rs.take p) b)) (.int r.2) = some (.int (gI (comeL (rs.take p) b) r.2)) := atI_ints (by omega) (by omega)
  simp [b_does_exchange, er, dR, -seqQ_nx]
  rw [seqQ_nx]
  simp [t1, e1, -seqQ_nx]
  rw [seqQ_nx]
  simp [g1, g2]
theorem f_first_exchange {P : Nat → Option FD} {W k : Nat} {st : Sto} (h : H_first_exchange P) {n p : Nat} {rs : List (Int × Int)} (hl : okL (n : Int) rs) (hp : p < rs.length) (hn : n ≤ 8) :
    evF P W (k + 4) 413 [dLad n rs, .int (p : Int)] st = some (.v (optD (firstX n rs p)), st) := by
  apply eq_of_wp
  apply w_fn h.p rfl
  have e1 := f_bits_of8 (W := W) (k := k + 2) (st := st) h.bits_of hn
  simp [b_first_exchange, e1, -seqQ_nx]
  have hmem : ∀ b ∈ bitsAll n, b.length = n := fun b hb => bits_len hb
  unfold firstX
  generalize bitsAll n = l at *
  refine wp_loop (fun i ρ s => s = st ∧ (l.find? fun b => exB n rs p b) = ((l.drop i).find? fun b => exB n rs p b) ∧ ∃ x : Option RV, ρ = [some (.v (dLad n rs)), some (.v (.int (p : Int))), x]) ⟨rfl, rfl, none, rfl⟩ ?_ ?_
  · rintro i d ρ s hd ⟨rfl, he, x, rfl⟩
    obtain ⟨b, hb, rfl⟩ := map_at hd
    have hi := (List.getElem?_eq_some_iff.mp hb).1
    have hdr : l.drop i = b :: l.drop (i + 1) := by
      rw [List.drop_eq_getElem_cons hi]
      rw [(List.getElem?_eq_some_iff.mp hb).2]
    rw [hdr, List.find?_cons] at he
    have e2 := f_does_exchange (W := W) (k := k) (st := s) h.does_exchange hl hp (hmem b (List.mem_of_getElem? hb))
    cases q : exB n rs p b
    · rw [q] at he e2
      simp [e2, he]
    · rw [q] at he e2
      simp [e2, he, optD]
  · rintro ρ s ⟨rfl, he, x, rfl⟩
    rw [List.length_map, List.drop_length] at he
    rw [seqQ_nx]
    simp [he, optD]
theorem f_idle_of {P : Nat → Option FD} {W k : Nat} {st : Sto} (h : H_idle_of P) {n : Nat} {rs : List (Int × Int)} (hl : okL (n : Int) rs) (hn : n ≤ 8) :
    evF P W (k + 5) 441 [dLad n rs] st = some (.o ((idleL n rs).map fun (i : Nat) => PyData.int (i : Int)), st) := by
  apply eq_of_wp
  apply w_fn h.p rfl
  have hll := hl.len
  have e4 : blt .len [dRs rs] = some (.v (.int (rs.length : Int))) := by simp [dRs]
  have hr := rangeOf_nat (n := rs.length) (by omega)
  simp [b_idle_of, e4, hr, rangeL]
  refine wp_compIf (e := fun i : Nat => PyData.int (i : Int)) (p := fun p => idleB n rs p) (f := fun i : Nat => PyData.int (i : Int)) (fun p hp => ?_) ?_
  · have e2 := f_first_exchange (W := W) (k := k) (st := st) h.first_exchange hl (List.mem_range.mp hp) hn
    have i0 := is_opt (firstX n rs p)
    simp [e2, i0, idleB]
  · have : (idleL n rs).length ≤ rs.length := Nat.le_trans (List.length_filter_le _ _) (by simp)
    have this' : ((idleL n rs).map fun i : Nat => PyData.int (i : Int)).length ≤ maxLen := by rw [List.length_map]; simp only [maxLen]; omega
    refine ⟨this', ?_⟩
    exact ⟨rfl, rfl, rfl⟩
/-- rungs left out by a list of places -/
theorem f_less {P : Nat → Option FD} {W k : Nat} {st : Sto} (h : H_less P) {n : Int} {rs : List (Int × Int)} {ps : List Nat} (hl : okL n rs) :
    evF P W (k + 1) 511 [dLad n rs, .list (ps.map fun (i : Nat) => PyData.int (i : Int))] st = some (.v (dLad n (lessB rs fun p => decide (p ∈ ps))), st) := by
  apply eq_of_wp
  apply w_fn h.p rfl
  have h2m : 2 ≤ maxLen := by simp [maxLen]
  have hll := hl.len
  simp [b_less, enum_map, h2m]
  refine wp_compIf (p := fun q => !decide (q.2 ∈ ps)) (f := fun q => dR q.1) (fun q hq => ?_) ?_
  · have e0 : cmp2 .notin (.int (q.2 : Int)) (.list (ps.map fun (i : Nat) => PyData.int (i : Int))) = some (.bool (!decide (q.2 ∈ ps))) := by
      have := c_ninL (xs := ps.map fun (i : Nat) => (i : Int)) (a := (q.2 : Int))
      rw [List.map_map] at this
      have e : ((q.2 : Int) ∈ ps.map fun (i : Nat) => (i : Int)) ↔ q.2 ∈ ps := by
        rw [List.mem_map]
        constructor
        · rintro ⟨a, ha, e⟩
          have : a = q.2 := by omega
          rw [← this]; exact ha
        · intro h; exact ⟨_, h, rfl⟩
      rw [show (PyData.int ∘ fun (i : Nat) => (i : Int)) = fun (i : Nat) => PyData.int (i : Int) from rfl] at this
      rw [this]
      congr 2
      by_cases q' : q.2 ∈ ps
      · simp [q', e]
      · simp [q', e]
    by_cases q' : q.2 ∈ ps
    · simp [e0, q']
    · simp [e0, q']
  · have e : ((rs.zipIdx.filter fun q => !decide (q.2 ∈ ps)).map fun q => dR q.1) = (lessB rs fun p => decide (p ∈ ps)).map dR := by unfold lessB; rw [List.map_map]; rfl
    refine ⟨?_, ?_⟩
    · show ((rs.zipIdx.filter fun q => !decide (q.2 ∈ ps)).map fun q => dR q.1).length ≤ maxLen
      have := List.length_filter_le (fun q : (Int × Int) × Nat => !decide (q.2 ∈ ps)) rs.zipIdx
      rw [List.length_zipIdx] at this
      rw [List.length_map]
      simp only [maxLen]; omega
    · refine ⟨rfl, ?_, rfl⟩
      show PyData.tuple [.int n, .tuple ((rs.zipIdx.filter fun q => !decide (q.2 ∈ ps)).map fun q => dR q.1)] = _
      rw [e]
      rfl

theorem lessB_congr {rs : List (Int × Int)} {f g : Nat → Bool} (h : ∀ p, p < rs.length → f p = g p) : lessB rs f = lessB rs g := by
  unfold lessB
  congr 1
  refine List.filter_congr fun q hq => ?_
  have := (List.mem_zipIdx hq).2.1
  rw [h q.2 (by omega)]
theorem lessB_sub {rs : List (Int × Int)} {f : Nat → Bool} {r : Int × Int} (h : r ∈ lessB rs f) : r ∈ rs := by
  unfold lessB at h
  obtain ⟨q, hq, rfl⟩ := List.mem_map.mp h
  have := (List.mem_filter.mp hq).1
  exact List.mem_of_getElem? (List.mem_zipIdx_iff_getElem?.mp this)
theorem lessB_le {rs : List (Int × Int)} {f : Nat → Bool} : (lessB rs f).length ≤ rs.length := by
  rw [lessB_len]
  exact Nat.le_trans (List.length_filter_le _ _) (by simp)
theorem okL_less {n : Int} {rs : List (Int × Int)} {f : Nat → Bool} (h : okL n rs) : okL n (lessB rs f) := ⟨h.lo, h.hi, Nat.le_trans lessB_le h.len, fun r hr => h.each r (lessB_sub hr)⟩
theorem f_without_idle {P : Nat → Option FD} {W k : Nat} {st : Sto} (h : H_without_idle P) {n : Nat} {rs : List (Int × Int)} (hl : okL (n : Int) rs) (hn : n ≤ 8) :
    evF P W (k + 7) 722 [dLad n rs] st = some (.v (dLad n (lessB rs (idleB n rs))), st) := by
  apply eq_of_wp
  apply w_fn h.p rfl
  have e1 := f_check_ladder (W := W) (k := k) (st := st) h.check_ladder hl
  have e2 := f_idle_of (W := W) (k := k + 1) (st := st) h.idle_of hl hn
  have e3 := f_less (W := W) (k := k + 5) (st := st) h.less (ps := idleL n rs) hl
  rw [lessB_congr (g := idleB n rs) fun p hp => by
    unfold idleL
    rw [Bool.eq_iff_iff, decide_eq_true_eq, List.mem_filter, List.mem_range]
    exact ⟨fun z => z.2, fun z => ⟨hp, z⟩⟩] at e3
  simp [b_without_idle, e1, e2, e3]
theorem lessB_one {rs : List (Int × Int)} {p : Nat} : lessB rs (fun q => decide (q ∈ [p])) = rs.eraseIdx p := by
  unfold lessB
  have := erase_filter rs 0 p
  rw [Nat.zero_add] at this
  rw [← this]
  congr 1
  refine List.filter_congr fun q hq => ?_
  show (!decide (q.2 ∈ [p])) = decide (q.2 ≠ p)
  by_cases z : q.2 = p <;> simp [z]
theorem f_check_sorter {P : Nat → Option FD} {W k : Nat} {st : Sto} (h : H_check_sorter P) {n : Nat} {rs : List (Int × Int)} (hl : okL (n : Int) rs) (hn : n ≤ 8) (hs : (firstO n rs).isNone = true) : evF P W (k + 7) 335 [dLad n rs] st = some (.v .none, st) := by
  apply eq_of_wp
  apply w_fn h.p rfl
  have e1 := f_check_ladder (W := W) (k := k) (st := st) h.check_ladder hl
  have e3 := f_first_wrong_outs (W := W) (k := k + 3) (st := st) h.first_wrong_outs hl hn
  rw [Option.isNone_iff_eq_none.mp hs] at e3
  have i0 : cmp2 .isnot (optD none) .none = some (.bool false) := rfl
  simp [b_check_sorter, e1, e3, i0]
theorem f_thinned {P : Nat → Option FD} {W k : Nat} {st : Sto} (h : H_thinned P) {n : Nat} {rs : List (Int × Int)} (hl : okL (n : Int) rs) (hn : n ≤ 8) (hs : (firstO n rs).isNone = true) :
    ∃ R : List (Int × Int), R.length ≤ nonIdle n rs 0 ∧ evF P W (k + 8) 683 [dLad n rs] st = some (.v (dLad n R), st) := by
  suffices hw : wp (evF P W (k + 8) 683 [dLad n rs] st) (fun r => ∃ R : List (Int × Int), R.length ≤ nonIdle n rs 0 ∧ r = (.v (dLad n R), st)) by
    obtain ⟨r, e, R, h1, rfl⟩ := hw
    exact ⟨R, h1, e⟩
  apply w_fn h.p rfl
  have hll := hl.len
  have e1 := f_check_sorter (W := W) (k := k) (st := st) h.check_sorter hl hn hs
  have e4 : blt .len [dRs rs] = some (.v (.int (rs.length : Int))) := by simp [dRs]
  have r1 : rangeOf [.int ((rs.length : Int) - 1), .int (-1), .int (-1)] = some ((List.range rs.length).map fun (i : Nat) => PyData.int ((rs.length : Int) - 1 - (i : Int))) := by
    rw [rng_down (by omega) (by omega) (by omega) (by omega) (by omega)]
    have e : ((rs.length : Int) - 1 - (-1)).toNat = rs.length := by omega
    rw [e]
    unfold rangeStep
    congr 2
    funext i
    congr 1
    omega
  simp [b_thinned, e1, -seqQ_nx]
  rw [seqQ_nx]
  simp [e4, r1, -seqQ_nx]
  refine wp_loop (fun i ρ s => s = st ∧ ∃ (R : List (Int × Int)) (x : Option RV), ρ = [some (.v (dLad n (rs.take (rs.length - i) ++ R))), x] ∧ (∀ r ∈ R, r ∈ rs) ∧ R.length ≤ nonIdle n rs (rs.length - i) ∧ R.length ≤ i ∧ (∀ b ∈ bitsAll n, sortedB (comeL (rs.take (rs.length - i) ++ R) b) = true)) ⟨rfl, [], none, by simp, by simp, by simp, by simp, by simpa using (sorts_all hl.each).mp hs⟩ ?_ ?_
  · rintro i d ρ s hd ⟨rfl, R, x, rfl, hR, hRl, hRi, hRs⟩
    obtain ⟨i', hi', rfl⟩ := map_at hd
    obtain ⟨hi, rfl⟩ := List.getElem?_eq_some_iff.mp hi'
    simp at hi
    obtain ⟨p, hp⟩ : ∃ p : Nat, p = rs.length - 1 - i := ⟨_, rfl⟩
    have e : (rs.length : Int) - 1 - (i : Int) = (p : Int) := by omega
    simp only [List.getElem_range, e]
    have hpl : p < rs.length := by omega
    have ep1 : rs.length - i = p + 1 := by omega
    have ep2 : rs.length - (i + 1) = p := by omega
    rw [ep1] at hRl hRs ⊢
    rw [ep2]
    have okT : ∀ (q : Nat) (Q : List (Int × Int)), Q.length + q ≤ rs.length → (∀ r ∈ Q, r ∈ rs) → okL (n : Int) (rs.take q ++ Q) := fun q Q h1 h2 => ⟨hl.lo, hl.hi, by
      rw [List.length_append, List.length_take]; omega, fun r hr => by
      rcases List.mem_append.mp hr with hr | hr
      · exact hl.each r (List.mem_of_mem_take hr)
      · exact hl.each r (h2 r hr)⟩
    have e2 := f_less (W := W) (k := k + 6) (st := s) h.less (ps := [p]) (okT (p + 1) R (by omega) hR)
    have ele : (rs.take (p + 1) ++ R).eraseIdx p = rs.take p ++ R := by
      rw [take_snoc hpl, List.append_assoc]
      have : (rs.take p).length = p := by rw [List.length_take]; omega
      rw [List.eraseIdx_append_of_length_le (by omega), this]
      simp
    rw [lessB_one, ele] at e2
    have e3 := f_does_sort (W := W) (k := k + 3) (st := s) h.does_sort (okT p R (by omega) hR) hn
    simp only [List.map_cons, List.map_nil] at e2
    simp [maxLen, e2, e3, -seqQ_nx]
    cases qq : firstO n (rs.take p ++ R) with
    | none =>
      have q : (firstO n (rs.take p ++ R)).isNone = true := by rw [qq]; rfl
      simp [e2, qq]
      have hs' := (sorts_all (okT p R (by omega) hR).each).mp q
      refine ⟨R, rfl, fun a b hr => hR (a, b) hr, ?_, by omega, hs'⟩
      rw [nonIdle_step hpl]
      omega
    | some bb =>
      have q : (firstO n (rs.take p ++ R)).isNone = false := by rw [qq]; rfl
      simp [qq]
      refine ⟨rs.getD p (0, 0) :: R, ?_, fun a b hr => ?_, ?_, by rw [List.length_cons]; omega, ?_⟩
      · rw [take_snoc hpl, List.append_assoc]; rfl
      · rcases List.mem_cons.mp hr with e | hr
        · rw [e, List.getD_eq_getElem?_getD, List.getElem?_eq_getElem hpl]; exact List.getElem_mem _
        · exact hR _ hr
      · rw [nonIdle_step hpl, List.length_cons]
        have hni : idleB n rs p = false := by
          cases z : idleB n rs p with
          | false => rfl
          | true =>
            exfalso
            have : (firstO n (rs.take p ++ R)).isNone = true := (sorts_all (okT p R (by omega) hR).each).mpr fun b hb => by
              rw [come_app, ← idle_pass hpl z hb, ← come_app]
              exact hRs b hb
            rw [this] at q
            cases q
        rw [hni]
        simp
        omega
      · intro b hb
        have := hRs b hb
        rw [take_snoc hpl, List.append_assoc] at this
        exact this
  · rintro ρ s ⟨rfl, R, x, rfl, hR, hRl, hRi, hRs⟩
    rw [List.length_map, List.length_range, Nat.sub_self] at *
    rw [seqQ_nx]
    simp
    exact ⟨R, hRl, rfl⟩
theorem bare_len {n : Nat} {rs : List (Int × Int)} : (lessB rs (idleB n rs)).length = nonIdle n rs 0 := by
  rw [lessB_len]
  unfold nonIdle
  rw [List.range_eq_range', Nat.sub_zero]
def pairN (p : Nat × Nat) : D := .tuple [.int (p.1 : Int), .int (p.2 : Int)]
theorem f_outs_behind {P : Nat → Option FD} {W k : Nat} {st : Sto} (h : H_outs_behind P) {n : Nat} {rs : List (Int × Int)} (hl : okL (n : Int) rs) (hn : n ≤ 8) :
    evF P W (k + 3) 560 [dLad n rs, .int (rs.length : Int)] st = some (.o ((bitsAll n).map fun b => .tuple [dInts b, dInts (comeL rs b)]), st) := by
  apply eq_of_wp
  apply w_fn h.p rfl
  have hll := hl.len
  have e1 := f_bits_of8 (W := W) (k := k + 1) (st := st) h.bits_of hn
  have t1 : sl3 (dRs rs) none (some (.int (rs.length : Int))) = some (.v (dRs rs)) := by
    have := sl_t (xs := rs.map dR) (lo := none) (hi := some (.int (rs.length : Int))) ai_n (ai_i (by omega) (by omega))
    rw [cut_take (by omega), Int.toNat_natCast, ← List.map_take, List.take_length] at this
    exact this
  have h2m : 2 ≤ maxLen := by simp [maxLen]
  simp [b_outs_behind, e1]
  refine wp_comp (e := dInts) (f := fun b => .tuple [dInts b, dInts (comeL rs b)]) (fun b hb => ?_) ?_
  · have hh := hl.hi
    have hbl := bits_len hb
    have e2 := f_come_out (W := W) (k := k) (st := st) h.come_out (xs := b) hl.each (by omega) (by omega)
    simp [t1, e2, h2m]
  · have : (bitsAll n).length ≤ maxLen := by rw [bitsAll_len]; exact Nat.le_trans (pow_le8 hn) (by simp [maxLen])
    refine ⟨by simpa using this, ?_⟩
    exact ⟨rfl, rfl, rfl⟩
theorem f_pairs_of {P : Nat → Option FD} {W k : Nat} {st : Sto} (h : H_pairs_of P) {n : Nat} {rs : List (Int × Int)} (hl : okL (n : Int) rs) (hn : n ≤ 8) :
    evF P W (k + 4) 563 [dLad n rs, .int (rs.length : Int)] st = some (.o ((knL n rs).map pairN), st) := by
  apply eq_of_wp
  apply w_fn h.p rfl
  have e1 := f_outs_behind (W := W) (k := k) (st := st) h.outs_behind hl hn
  have hr := rangeOf_nat (n := n) (by omega)
  have hbl : (bitsAll n).length ≤ maxLen := by rw [bitsAll_len]; exact Nat.le_trans (pow_le8 hn) (by simp [maxLen])
  simp [b_pairs_of, e1, -seqQ_nx]
  refine wp_comp (e := fun b => .tuple [dInts b, dInts (comeL rs b)]) (f := fun b => dInts (comeL rs b)) (fun b hb => ?_) ?_
  · simp
  refine ⟨by simpa using hbl, ?_⟩
  rw [seqQ_nx]
  simp [-seqQ_nx]
  rw [seqQ_nx]
  simp [hr, rangeL, -seqQ_nx]
  refine wp_loop (fun i ρ s => s = st ∧ ∃ x y : Option RV, ρ = [some (.v (dLad n rs)), some (.v (.int (rs.length : Int))), some (.v (.list ((bitsAll n).map fun b => dInts (comeL rs b)))), some (.o ((((List.range i).map fun a => ((List.range n).filter fun b => knP n rs a b).map fun b => (a, b)).flatten).map pairN)), x, y, none, none]) ⟨rfl, none, none, rfl⟩ ?_ ?_
  · rintro i d ρ s hd ⟨rfl, x, y, rfl⟩
    obtain ⟨i', hi', rfl⟩ := map_at hd
    obtain ⟨hi, rfl⟩ := List.getElem?_eq_some_iff.mp hi'
    simp at hi
    simp only [List.getElem_range]
    have hacc : (((List.range i).map fun a => ((List.range n).filter fun b => knP n rs a b).map fun b => (a, b)).flatten).length ≤ i * n := by
      have : ∀ l : List Nat, (l.map fun a => ((List.range n).filter fun b => knP n rs a b).map fun b => (a, b)).flatten.length ≤ l.length * n := by
        intro l
        induction l with
        | nil => simp
        | cons a r ih =>
          rw [List.map_cons, List.flatten_cons, List.length_append, List.length_map, List.length_cons, Nat.succ_mul]
          have := List.length_filter_le (fun b => knP n rs a b) (List.range n)
          rw [List.length_range] at this
          omega
      have := this (List.range i)
      rwa [List.length_range] at this
    have hin : i * n ≤ 64 := Nat.mul_le_mul (show i ≤ 8 by omega) hn
    rw [List.range_succ, List.map_append, List.flatten_append, List.map_append]
    simp only [List.map_cons, List.map_nil, List.flatten_cons, List.flatten_nil, List.append_nil]
    generalize ((List.range i).map fun a => ((List.range n).filter fun b => knP n rs a b).map fun b => (a, b)).flatten = acc at *
    simp [hr, rangeL, -seqQ_nx]
    refine wp_loop (fun j ρ s' => s' = s ∧ ∃ y : Option RV, ρ = [some (.v (dLad n rs)), some (.v (.int (rs.length : Int))), some (.v (.list ((bitsAll n).map fun b => dInts (comeL rs b)))), some (.o (acc.map pairN ++ (((List.range j).filter fun b => knP n rs i b).map fun b => (i, b)).map pairN)), some (.v (.int (i : Int))), y, none, none]) ⟨rfl, y, by simp⟩ ?_ ?_
    · rintro j d ρ s' hd ⟨rfl, y, rfl⟩
      obtain ⟨j', hj', rfl⟩ := map_at hd
      obtain ⟨hj, rfl⟩ := List.getElem?_eq_some_iff.mp hj'
      simp at hj
      simp only [List.getElem_range]
      have hfl := List.length_filter_le (fun b => knP n rs i b) (List.range j)
      rw [List.length_range] at hfl
      have hlm : acc.length + ((List.range j).filter fun b => knP n rs i b).length < maxLen := by simp only [maxLen]; omega
      have eF : (List.range (j + 1)).filter (fun b => knP n rs i b) = (List.range j).filter (fun b => knP n rs i b) ++ (if knP n rs i j then [j] else []) := by
        rw [List.range_succ, List.filter_append]
        by_cases z : knP n rs i j = true
        · rw [if_pos z, List.filter_cons_of_pos z]; rfl
        · rw [if_neg z, List.filter_cons_of_neg z]; rfl
      simp only [eF]
      generalize (List.range j).filter (fun b => knP n rs i b) = acc2 at *
      by_cases hij : i = j
      · subst hij
        have : knP n rs i i = false := by unfold knP; simp
        simp [c_ne, cast_eqv, this]
      · have hij' : ¬ (i : Int) = j := by omega
        simp [c_ne, cast_eqv, hij', -seqQ_nx]
        refine wp_comp (e := fun b => dInts (comeL rs b)) (f := fun b => PyData.bool (decide (gI (comeL rs b) (i : Int) > gI (comeL rs b) (j : Int)))) (fun b hb => ?_) ?_
        · have hbl2 := bits_len hb
          have hcl := comeL_len rs b
          have g1 : sub2 (dInts (comeL rs b)) (.int (i : Int)) = some (.int (gI (comeL rs b) (i : Int))) := atI_ints (by omega) (by omega)
          have g2 : sub2 (dInts (comeL rs b)) (.int (j : Int)) = some (.int (gI (comeL rs b) (j : Int))) := atI_ints (by omega) (by omega)
          simp [g1, g2]
        · refine ⟨by simpa using hbl, ?_⟩
          have ea : blt .any [.list ((bitsAll n).map fun b => PyData.bool (decide (gI (comeL rs b) (i : Int) > gI (comeL rs b) (j : Int))))] = some (.v (.bool ((bitsAll n).any fun b => decide (gI (comeL rs b) (i : Int) > gI (comeL rs b) (j : Int))))) := b_anyG _
          have ek : knP n rs i j = !((bitsAll n).any fun b => decide (gI (comeL rs b) (i : Int) > gI (comeL rs b) (j : Int))) := by unfold knP; simp [hij]
          have h2m : 2 ≤ maxLen := by simp [maxLen]
          simp only [d_o, ea, wp_some, d_v]
          rw [ek]
          cases ((bitsAll n).any fun b => decide (gI (comeL rs b) (i : Int) > gI (comeL rs b) (j : Int))) with
          | true => simp
          | false =>
            simp [h2m, hlm, pairN]
    · rintro ρ s' ⟨rfl, y, rfl⟩
      rw [List.length_map, List.length_range]
      simp
  · rintro ρ s ⟨rfl, x, y, rfl⟩
    rw [List.length_map, List.length_range]
    rw [seqQ_nx]
    unfold knL
    rw [List.map_flatten, List.map_map]
    simp
theorem f_known_pairs {P : Nat → Option FD} {W k : Nat} {st : Sto} (h : H_known_pairs P) {n : Nat} {rs : List (Int × Int)} (hl : okL (n : Int) rs) (hn : n ≤ 8) :
    evF P W (k + 8) 489 [dLad n rs, .int (rs.length : Int)] st = some (.v (.tuple ((knL n rs).map pairN)), st) := by
  apply eq_of_wp
  apply w_fn h.p rfl
  have e1 := f_check_place_knowing (W := W) (k := k) (st := st) h.check_place_knowing hl (Nat.le_refl _)
  have e2 := f_pairs_of (W := W) (k := k + 3) (st := st) h.pairs_of hl hn
  have := knL_len (n := n) (rs := rs)
  have h64 : n * n ≤ 64 := Nat.mul_le_mul hn hn
  have hm : (knL n rs).length ≤ maxLen := by simp only [maxLen]; omega
  simp [b_known_pairs, e1, e2, hm]
theorem f_less_none {P : Nat → Option FD} {W k : Nat} {st : Sto} (h : H_less_rungs P) {n : Int} {rs : List (Int × Int)} (hl : okL n rs) : evF P W (k + 8) 513 [dLad n rs, .tuple []] st = some (.v (dLad n rs), st) := by
  apply eq_of_wp
  apply w_fn h.p rfl
  have hll := hl.len
  have h2m : 2 ≤ maxLen := by simp [maxLen]
  have h0m : 0 ≤ maxLen := by simp [maxLen]
  have e4 : blt .len [dRs rs] = some (.v (.int (rs.length : Int))) := by simp [dRs]
  have e0 : evF P W (k + 7) 322 [dLad n rs, .tuple []] st = some (.v .none, st) := by
    apply eq_of_wp
    apply w_fn h.check_places.p rfl
    have e1 := f_check_ladder (W := W) (k := k) (st := st) h.check_places.check_ladder hl
    have e3 := f_are_between (W := W) (k := k + 2) (st := st) h.check_places.are_places.are_between (d := .tuple []) (lo := 0) (hi := (rs.length : Int) - 1) (by simp [maxLen])
    have b1 : abtw 0 ((rs.length : Int) - 1) (.tuple []) = true := rfl
    rw [b1] at e3
    have e5 := f_is_ascending (W := W) (k := k + 4) (st := st) h.check_places.are_places.is_ascending (xs := []) (by simp)
    have a1 : ascB [] = true := rfl
    rw [a1] at e5
    have e5' : evF P W (k + 5) 448 [.tuple []] st = some (.v (.bool true), st) := e5
    have e6 : evF P W (k + 6) 267 [dLad n rs, .tuple []] st = some (.v (.bool true), st) := by
      apply eq_of_wp
      apply w_fn h.check_places.are_places.p rfl
      simp [b_are_places, e4, e3, e5']
    simp [b_check_places, e1, -seqQ_nx]
    rw [seqQ_nx]
    simp [h0m, e6]
  simp [b_less_rungs, h0m, e0, enum_map, h2m]
  refine wp_compIf (p := fun _ => true) (f := fun q => dR q.1) (fun q hq => ?_) ?_
  · have en : cmp2 .notin (.int (q.2 : Int)) (.tuple []) = some (.bool true) := rfl
    simp [en]
  · have e : ((rs.zipIdx.filter fun _ => true).map fun q => dR q.1) = rs.map dR := by
      rw [List.filter_eq_self.mpr fun _ _ => rfl]
      have := List.zipIdx_map_fst 0 rs
      conv => rhs; rw [← this, List.map_map]
      rfl
    refine ⟨?_, ?_⟩
    · show ((rs.zipIdx.filter fun _ => true).map fun q => dR q.1).length ≤ maxLen
      rw [e, List.length_map]
      simp only [maxLen]; omega
    · refine ⟨rfl, ?_, rfl⟩
      show PyData.tuple [.int n, .tuple ((rs.zipIdx.filter fun _ => true).map fun q => dR q.1)] = _
      rw [e]
      rfl

theorem rev_rvz {rs : List (Int × Int)} : (rangeL 0 rs.length).reverse = (rvz rs).map fun x => PyData.int (x.2 : Int) := by
  unfold rvz rangeL
  rw [List.map_reverse]
  congr 1
  have := List.zipIdx_map_snd 0 rs
  rw [← List.range_eq_range'] at this
  rw [← this, List.map_map]
  refine List.map_congr_left fun x hx => ?_
  simp
theorem kpL_cons {x : (Int × Int) × Nat} {l : List ((Int × Int) × Nat)} {T : List Int} : kpL (x :: l) T = if tch x.1 T then x :: kpL l (T ++ [x.1.1, x.1.2]) else kpL l T := rfl
theorem f_law_kept {P : Nat → Option FD} {W k : Nat} {st : Sto} (h : H_u_law_kept P) {n : Nat} {rs : List (Int × Int)} {S : List Int} (hl : okL (n : Int) rs) (hS : S.length ≤ 100) :
    evF P W (k + 1) 170 [dRs rs, dInts S] st = some (.o ((dueL rs S).map fun (i : Nat) => PyData.int (i : Int)), st) := by
  apply eq_of_wp
  apply w_fn h.p rfl
  have hll := hl.len
  have hr := rangeOf_nat (n := rs.length) (by omega)
  have e4 : blt .len [dRs rs] = some (.v (.int (rs.length : Int))) := by simp [dRs]
  have elist : blt .list [dInts S] = some (.o (S.map .int)) := rfl
  simp [b_u_law_kept, elist, maxLen, -seqQ_nx]
  rw [seqQ_nx]
  simp [e4, hr, -seqQ_nx]
  rw [rev_rvz]
  have hsub : (rvz rs).length ≤ 80 := by unfold rvz; rw [List.length_reverse, List.length_zipIdx]; omega
  have hmem : ∀ x ∈ rvz rs, rs[x.2]? = some x.1 := fun x hx => rvz_mem.mp hx
  have hdue : dueL rs S = ((kpL (rvz rs) S).map (·.2)).reverse := rfl
  have hup := due_up rs S
  rw [hdue] at hup ⊢
  generalize rvz rs = l at *
  refine wp_loop (fun i ρ s => s = st ∧ ∃ (acc : List ((Int × Int) × Nat)) (T : List Int) (x y z : Option RV), ρ = [some (.v (dRs rs)), some (.v (dInts S)), x, some (.v (.list (T.map .int))), some (.o (acc.map fun q => PyData.int (q.2 : Int))), y, z] ∧ kpL l S = acc ++ kpL (l.drop i) T ∧ acc.length ≤ i ∧ T.length ≤ S.length + 2 * i) ⟨rfl, [], S, none, none, none, rfl, rfl, Nat.le_refl _, by omega⟩ ?_ ?_
  · rintro i d ρ s hd ⟨rfl, acc, T, x, y, z, rfl, h1, h3, h4⟩
    obtain ⟨q, hq, rfl⟩ := map_at hd
    have hi := (List.getElem?_eq_some_iff.mp hq).1
    have hdr : l.drop i = q :: l.drop (i + 1) := by
      rw [List.drop_eq_getElem_cons hi]
      rw [(List.getElem?_eq_some_iff.mp hq).2]
    rw [hdr, kpL_cons] at h1
    have hrq := hmem q (List.mem_of_getElem? hq)
    have er : sub2 (dRs rs) (.int (q.2 : Int)) = some (dR q.1) := by
      show L2.atI (rs.map dR) (q.2 : Int) = _
      rw [atI_nat, List.getElem?_map, hrq]
      rfl
    have dRe : dR q.1 = .tuple [.int q.1.1, .int q.1.2] := rfl
    rw [dRe] at er
    have h2m : 2 ≤ maxLen := by simp [maxLen]
    have hTm : T.length + 2 ≤ maxLen := by simp only [maxLen]; omega
    have ham : acc.length < maxLen := by simp only [maxLen]; omega
    have oT : op2 .add (.list (T.map PyData.int)) (.list [.int q.1.1, .int q.1.2]) = some (.o ((T ++ [q.1.1, q.1.2]).map PyData.int)) := by
      have : (T.map PyData.int).length + 2 ≤ maxLen := by rw [List.length_map]; exact hTm
      simp only [op2, List.length_cons, List.length_nil, this, if_true, List.map_append, List.map_cons, List.map_nil]
    have res : tch q.1 T → ∃ (acc' : List ((Int × Int) × Nat)) (T' : List Int) (x' y' z' : Option RV), [some (RV.v (dRs rs)), some (.v (dInts S)), some (.v (.int (q.2 : Int))), some (.v (.list ((T ++ [q.1.1, q.1.2]).map .int))), some (.o ((acc ++ [q]).map fun q => PyData.int (q.2 : Int))), some (.v (.int q.1.1)), some (.v (.int q.1.2))] = [some (.v (dRs rs)), some (.v (dInts S)), x', some (.v (.list (T'.map .int))), some (.o (acc'.map fun q => PyData.int (q.2 : Int))), y', z'] ∧ kpL l S = acc' ++ kpL (l.drop (i + 1)) T' ∧ acc'.length ≤ i + 1 ∧ T'.length ≤ S.length + 2 * (i + 1) := fun c =>
      ⟨acc ++ [q], T ++ [q.1.1, q.1.2], _, _, _, rfl, by rw [h1, if_pos c]; simp, by simp; omega, by simp; omega⟩
    by_cases c : tch q.1 T
    · have rr := res c
      simp [er, -seqQ_nx]
      rw [seqQ_nx]
      rcases id c with c1 | c1
      · simp [c_inL, c1, ham, -seqQ_nx]
        rw [seqQ_nx]
        simp [h2m, oT]
        simpa using rr
      · by_cases c2 : q.1.1 ∈ T
        · simp [c_inL, c2, ham, -seqQ_nx]
          rw [seqQ_nx]
          simp [h2m, oT]
          simpa using rr
        · simp [c_inL, c1, c2, ham, -seqQ_nx]
          rw [seqQ_nx]
          simp [h2m, oT]
          simpa using rr
    · rw [if_neg c] at h1
      have c1 : q.1.1 ∉ T := fun z => c (.inl z)
      have c2 : q.1.2 ∉ T := fun z => c (.inr z)
      simp [er, c_inL, c1, c2]
      exact ⟨acc, T, ⟨rfl, rfl⟩, h1, by omega, by omega⟩
  · rintro ρ s ⟨rfl, acc, T, x, y, z, rfl, h1, h3, h4⟩
    rw [List.length_map, List.drop_length] at h1
    rw [List.length_map] at h3
    have h1' : kpL l S = acc := by rw [h1]; simp [kpL]
    rw [h1'] at hup ⊢
    rw [seqQ_nx]
    have ei : (acc.map fun q => PyData.int (q.2 : Int)) = (acc.map fun q => (q.2 : Int)).map PyData.int := by rw [List.map_map]; rfl
    have es : sortI (acc.map fun q => (q.2 : Int)) = (acc.map fun q => (q.2 : Int)).reverse := by
      refine List.Perm.eq_of_pairwise (le := fun a b => a ≤ b) (fun a b _ _ h1 h2 => by omega) (sortI_sorted _) ?_ ((sortI_perm _).trans (List.reverse_perm _).symm)
      rw [List.pairwise_reverse] at hup ⊢
      rw [List.pairwise_map] at hup ⊢
      exact hup.imp fun {a b} h => by omega
    have bs : blt .sorted [.list (acc.map fun q => PyData.int (q.2 : Int))] = some (.o ((acc.map fun q => PyData.int (q.2 : Int)).reverse)) := by
      rw [ei, b_sortL (by rw [List.length_map]; simp only [maxLen]; omega), es, List.map_reverse]
    simp [bs, List.map_reverse]

theorem rng_dn {i j : Int} {n : Nat} (h1 : -(2 ^ 40) < i) (h2 : i < 2 ^ 40) (h3 : -(2 ^ 40) < j) (h4 : j < 2 ^ 40) (h5 : i - j ≤ 100000) (e : (i - j).toNat = n) : rangeOf [.int i, .int j, .int (-1)] = some ((List.range n).map fun (t : Nat) => PyData.int (i - (t : Int))) := by
  rw [rng_down h1 h2 h3 h4 h5, e]
  unfold rangeStep
  exact congrArg some (List.map_congr_left fun t _ => congrArg PyData.int (by omega))
theorem f_insertion {P : Nat → Option FD} {W k : Nat} {st : Sto} (h : H_insertion P) {m : Nat} (h1 : 1 ≤ m) (h2 : m ≤ 8) : ∃ rs : List (Int × Int), okL (m : Int) rs ∧ evF P W (k + 4) 444 [.int (m : Int)] st = some (.v (dLad m rs), st) := by
  suffices hw : wp (evF P W (k + 3) 445 [.int (m : Int)] st) (fun r => ∃ rs : List (Int × Int), okL (m : Int) rs ∧ r = (.o (rs.map dR), st)) by
    obtain ⟨r, e, rs, hl, rfl⟩ := hw
    refine ⟨rs, hl, ?_⟩
    apply eq_of_wp
    apply w_fn h.p rfl
    have e1 := f_check_many (W := W) (k := k) (st := st) h.check_many (n := (m : Int)) (by omega) (by omega)
    have hll := hl.len
    have hm : rs.length ≤ maxLen := by simp only [maxLen]; omega
    have h2m : 2 ≤ maxLen := by simp [maxLen]
    simp [b_insertion, e1, e, hm, h2m]
    rfl
  apply w_fn h.insertion_of.p rfl
  simp [b_insertion_of, -seqQ_nx]
  rw [seqQ_nx]
  have hr : rangeOf [.int 1, .int (m : Int)] = some ((List.range (m - 1)).map fun (i : Nat) => PyData.int (1 + (i : Int))) := by
    have s1 : small 1 = true := by decide
    have s2 : small (m : Int) = true := by simp [small]; omega
    have s3 : (m : Int) - 1 ≤ maxLen := by simp only [maxLen]; omega
    have s4 : ((m : Int) - 1).toNat = m - 1 := by omega
    simp only [rangeOf, s1, s2, s3, s4, rangeL]
    simp
  simp [hr, -seqQ_nx]
  refine wp_loop (fun i ρ s => s = st ∧ ∃ (rs : List (Int × Int)) (x : Option RV), ρ = [some (.v (.int (m : Int))), some (.o (rs.map dR)), x, none] ∧ (∀ r ∈ rs, okR (m : Int) r) ∧ rs.length ≤ 8 * i) ⟨rfl, [], none, rfl, fun r hr => by simp at hr, by simp⟩ ?_ ?_
  · rintro i d ρ s hd ⟨rfl, rs, x, rfl, hrs, hlen⟩
    obtain ⟨i', hi', rfl⟩ := map_at hd
    obtain ⟨hi, rfl⟩ := List.getElem?_eq_some_iff.mp hi'
    simp at hi
    simp only [List.getElem_range]
    have rd : rangeOf [.int (1 + (i : Int)), .int 0, .int (-1)] = some ((List.range (1 + i)).map fun (t : Nat) => PyData.int (1 + (i : Int) - (t : Int))) := rng_dn (by omega) (by omega) (by omega) (by omega) (by omega) (by omega)
    simp [rd, -seqQ_nx]
    refine wp_comp (e := fun (t : Nat) => PyData.int (1 + (i : Int) - (t : Int))) (f := fun (t : Nat) => dR (1 + (i : Int) - (t : Int) - 1, 1 + (i : Int) - (t : Int))) (fun t ht => ?_) ?_
    · have h2m : 2 ≤ maxLen := by simp [maxLen]
      simp [dR, h2m]
    · simp [maxLen]
      refine ⟨by omega, by omega, rs ++ (List.range (1 + i)).map (fun (t : Nat) => (1 + (i : Int) - (t : Int) - 1, 1 + (i : Int) - (t : Int))), by simp, ?_, by simp; omega⟩
      intro a b hr'
      rcases List.mem_append.mp hr' with hr' | hr'
      · exact hrs (a, b) hr'
      · obtain ⟨t, ht, e⟩ := List.mem_map.mp hr'
        have := List.mem_range.mp ht
        cases e
        exact ⟨by show (0 : Int) ≤ _; omega, by show (_ : Int) < _; omega, by show (_ : Int) < _; omega⟩
  · rintro ρ s ⟨rfl, rs, x, rfl, hrs, hlen⟩
    rw [List.length_map, List.length_range] at hlen
    rw [seqQ_nx]
    simp
    exact ⟨rs, ⟨by omega, by omega, by omega, hrs⟩, rfl⟩
theorem f_bubbles {P : Nat → Option FD} {W k : Nat} {st : Sto} (h : H_bubbles P) {m : Nat} (h1 : 1 ≤ m) (h2 : m ≤ 8) : ∃ rs : List (Int × Int), okL (m : Int) rs ∧ evF P W (k + 4) 293 [.int (m : Int)] st = some (.v (dLad m rs), st) := by
  suffices hw : wp (evF P W (k + 4) 293 [.int (m : Int)] st) (fun r => ∃ rs : List (Int × Int), okL (m : Int) rs ∧ r = (.v (dLad m rs), st)) by
    obtain ⟨r, e, rs, hl, rfl⟩ := hw
    exact ⟨rs, hl, e⟩
  apply w_fn h.p rfl
  have e1 := f_check_many (W := W) (k := k) (st := st) h.check_many (n := (m : Int)) (by omega) (by omega)
  simp [b_bubbles, e1, -seqQ_nx]
  rw [seqQ_nx]
  simp [-seqQ_nx]
  rw [seqQ_nx]
  have rd : rangeOf [.int ((m : Int) - 1), .int 0, .int (-1)] = some ((List.range (m - 1)).map fun (t : Nat) => PyData.int ((m : Int) - 1 - (t : Int))) := rng_dn (by omega) (by omega) (by omega) (by omega) (by omega) (by omega)
  simp [rd, -seqQ_nx]
  refine wp_loop (fun i ρ s => s = st ∧ ∃ (rs : List (Int × Int)) (x : Option RV), ρ = [some (.v (.int (m : Int))), some (.o (rs.map dR)), x, none] ∧ (∀ r ∈ rs, okR (m : Int) r) ∧ rs.length ≤ 8 * i) ⟨rfl, [], none, rfl, fun r hr => by simp at hr, by simp⟩ ?_ ?_
  · rintro i d ρ s hd ⟨rfl, rs, x, rfl, hrs, hlen⟩
    obtain ⟨i', hi', rfl⟩ := map_at hd
    obtain ⟨hi, rfl⟩ := List.getElem?_eq_some_iff.mp hi'
    simp at hi
    have e : (m : Int) - 1 - (i : Int) = ((m - 1 - i : Nat) : Int) := by omega
    simp only [List.getElem_range, e]
    have hr := rangeOf_nat (n := m - 1 - i) (by omega)
    simp [hr, rangeL, -seqQ_nx]
    refine wp_comp (f := fun (t : Nat) => dR ((t : Int), (t : Int) + 1)) (fun t ht => ?_) ?_
    · have h2m : 2 ≤ maxLen := by simp [maxLen]
      simp [dR, h2m]
    · simp [maxLen]
      refine ⟨by omega, by omega, rs ++ (List.range (m - 1 - i)).map (fun (t : Nat) => ((t : Int), (t : Int) + 1)), by simp, ?_, by simp; omega⟩
      intro a b hr'
      rcases List.mem_append.mp hr' with hr' | hr'
      · exact hrs (a, b) hr'
      · obtain ⟨t, ht, e⟩ := List.mem_map.mp hr'
        have := List.mem_range.mp ht
        cases e
        exact ⟨by show (0 : Int) ≤ _; omega, by show (_ : Int) < _; omega, by show (_ : Int) < _; omega⟩
  · rintro ρ s ⟨rfl, rs, x, rfl, hrs, hlen⟩
    rw [List.length_map, List.length_range] at hlen
    rw [seqQ_nx]
    have hm : rs.length ≤ maxLen := by simp only [maxLen]; omega
    have h2m : 2 ≤ maxLen := by simp [maxLen]
    simp [hm, h2m]
    exact ⟨rs, ⟨by omega, by omega, by omega, hrs⟩, rfl⟩

theorem f_rightP {P : Nat → Option FD} {W k : Nat} {st : Sto} (h : H_u_law_right P) {n B : Nat} {Q : RV × Sto → Prop} (hp : PotAt n B st) (hB : B ≤ 10 ^ 12)
    (q : ∀ st', PotAt n (B + 2000) st' → st'.length = st.length → Q (.v (.bool true), st')) : wp (evF P W (k + 9) 208 [dCell n] st) Q := by
  apply w_fn h.p rfl
  have h2m : 2 ≤ maxLen := by simp [maxLen]
  simp [b_u_law_right, -seqQ_nx]
  refine f_take h.u_law_take ?_ ?_ hp (by omega) fun v s1 v1 v2 hp1 hl1 => ?_
  · decide
  · unfold bd; decide
  obtain ⟨m', rfl⟩ := Int.eq_ofNat_of_zero_le v1
  obtain ⟨m, hm⟩ : ∃ m : Nat, m = 2 + m' := ⟨_, rfl⟩
  have hmI : (2 : Int) + m' = m := by omega
  have m1 : 1 ≤ m := by omega
  have m6 : m ≤ 6 := by omega
  simp [hmI, -seqQ_nx]
  rw [seqQ_nx]
  obtain ⟨ri, hri, c444⟩ := f_insertion (W := W) (k := k + 4) (st := s1) h.insertion (m := m) (by omega) (by omega)
  obtain ⟨rb, hrb, c293⟩ := f_bubbles (W := W) (k := k + 4) (st := s1) h.bubbles (m := m) (by omega) (by omega)
  simp [c444, c293, -seqQ_nx]
  refine f_lawladder (k := k + 6) (most := 14) h.u_law_ladder (by omega) (by omega) (by omega) (by omega) hp1 (by omega) fun rl s2 hrl hlenl hp2 hl2 => ?_
  refine ⟨by simp [maxLen], ?_⟩
  refine f_of h.u_law_of (by simp) (by simp [maxLen]) hp2 (by omega) fun d s3 hd hp3 hl3 => ?_
  have hex : ∃ rs : List (Int × Int), d = dLad m rs ∧ okL (m : Int) rs := by
    simp only [List.mem_cons, List.not_mem_nil, or_false] at hd
    rcases hd with rfl | rfl | rfl
    · exact ⟨ri, rfl, hri⟩
    · exact ⟨rb, rfl, hrb⟩
    · exact ⟨rl, rfl, ⟨by omega, by omega, by omega, hrl⟩⟩
  obtain ⟨rs, rfl, hl⟩ := hex
  rw [seqQ_nx]
  have hrm := rangeOf_nat (n := m) (by omega)
  simp [hrm, -seqQ_nx]
  refine f_take h.u_law_take (by omega) ?_ hp3 (by omega) fun c s4 c1 c2 hp4 hl4 => ?_
  · exact bd_of (by omega) (by omega)
  obtain ⟨c', rfl⟩ := Int.eq_ofNat_of_zero_le c1
  have ec : (1 : Int) + (c' : Int) = ((1 + c' : Nat) : Int) := by omega
  simp [ec, -seqQ_nx, -Int.natCast_add]
  refine f_someI (k := k + 6) (m := m) (c := 1 + c') h.u_law_some (by omega) (by omega) hp4 (by omega) fun xs s5 hnd hxb hxl hp5 hl5 => ?_
  have hxm : xs.length ≤ maxLen := by simp only [maxLen]; omega
  simp [-seqQ_nx]
  refine wp_comp (e := PyData.int) (f := PyData.int) (fun x hx => ?_) ?_
  · simp
  have bs := b_sortL hxm
  refine ⟨by simpa using hxm, ?_⟩
  have hS : okLot m (sortI xs) := okLot_sort hnd hxb (by omega)
  have hSl : (sortI xs).length ≤ 6 := by rw [(sortI_perm xs).length_eq]; omega
  have hSm : (sortI xs).length ≤ maxLen := by simp only [maxLen]; omega
  have ex : PyData.tuple ((sortI xs).map PyData.int) = dInts (sortI xs) := rfl
  simp only [bs, d_o, wp_some]
  simp [hSm, ex, -seqQ_nx]
  rw [seqQ_nx]
  generalize sortI xs = S at *
  obtain ⟨ps, hps⟩ : ∃ ps, ps = (pk rs.reverse S).reverse := ⟨_, rfl⟩
  have hlp : okL (m : Int) ps := by rw [hps]; exact okL_pk hl
  have c572 := f_pruned (W := W) (k := k + 1) (st := s5) h.pruned (by omega : m ≤ 10) hl hS
  rw [← hps] at c572
  simp [c572, -seqQ_nx]
  rw [seqQ_nx]
  have r6 : rangeOf [.int 6] = some (rangeL 0 6) := rangeOf_nat (n := 6) (by omega)
  simp [r6, -seqQ_nx]
  dsimp only at hl3
  have hl5' : s5.length = st.length := by omega
  refine wp_loop (fun i ρ s => PotAt n (B + 300 + 100 * i) s ∧ s.length = st.length ∧ ∃ x y z u : Option RV, ρ = [some (.v (dCell n)), some (.v (.int (m : Int))), some (.v (dLad m rs)), some (.v (dInts S)), some (.v (dLad m ps)), x, none, none, none, none, none, none, none, y, z, u, none]) ⟨hp5.mono (by omega), hl5', none, none, none, none, rfl⟩ ?_ ?_
  · rintro i d ρ s hd ⟨hps', hls, x, y, z, u, rfl⟩
    have hi := (rangeL_at hd).1
    simp [-seqQ_nx]
    refine f_lawrow (k := k + 5) h.u_law_row (by omega) hps' (by omega) fun row s6 hrow hp6 hl6 => ?_
    rw [seqQ_nx]
    have e1 := f_run (W := W) (k := k) (st := s6) h.run hl hrow
    have e2 := f_run (W := W) (k := k) (st := s6) h.run hlp hrow
    simp [e1, e2, -seqQ_nx]
    rw [seqQ_nx]
    simp [-seqQ_nx]
    have hin : ∀ (ls : List (Int × Int)), ∀ t ∈ S, sub2 (dInts (comeL ls row)) (.int t) = some (.int (gI (comeL ls row) t)) := fun ls t ht => by
      have := hS.each t ht
      exact atI_ints this.1 (by rw [comeL_len]; have := hrow.len; omega)
    refine wp_comp (e := PyData.int) (f := fun t => .int (gI (comeL rs row) t)) (fun t ht => ?_) ?_
    · simp [hin rs t ht]
    refine ⟨by simpa using hSm, ?_⟩
    refine wp_comp (e := PyData.int) (f := fun t => .int (gI (comeL ps row) t)) (fun t ht => ?_) ?_
    · simp [hin ps t ht]
    refine ⟨by simpa using hSm, ?_⟩
    have eq1 : S.map (fun t => PyData.int (gI (comeL ps row) t)) = S.map fun t => PyData.int (gI (comeL rs row) t) := by
      have := lots_eq (S := S) (xs := row) hl.each hrow.len hS.each
      rw [← hps] at this
      have := congrArg (List.map PyData.int) this
      rw [List.map_map, List.map_map] at this
      exact this
    have fl1 : flat (.list (S.map fun t => PyData.int (gI (comeL rs row) t))) = true := fl_sh (n := 1) (sh_list fun d hd => by
      obtain ⟨a, _, rfl⟩ := List.mem_map.mp hd
      exact sh_int) (by omega)
    have ev1 : PyData.eqv (.list (S.map fun t => PyData.int (gI (comeL rs row) t))) (.list (S.map fun t => PyData.int (gI (comeL rs row) t))) = true := eqv_same fl1
    rw [eq1]
    simp [c_ne, fl1, ev1]
    exact ⟨hp6.mono (by omega), by omega⟩
  rintro ρ s ⟨hp6, hl6, x, y, z, u, rfl⟩
  rw [rangeL_len] at hp6
  rw [seqQ_nx]
  simp [-seqQ_nx]
  -- the same number is chosen
  refine wp_loop (fun i ρ s' => s' = s ∧ ∃ x6 : Option RV, ρ = [some (.v (dCell n)), some (.v (.int (m : Int))), some (.v (dLad m rs)), some (.v (dInts S)), some (.v (dLad m ps)), x, x6, none, none, none, none, none, none, y, z, u, none]) ⟨rfl, none, rfl⟩ ?_ ?_
  · rintro i d ρ s' hd ⟨rfl, x6, rfl⟩
    obtain ⟨t, ht, rfl⟩ := map_at hd
    have htS := List.mem_of_getElem? ht
    have hb := hS.each t htS
    have e1 := f_chosen_on (W := W) (k := k + 1) (st := s') h.chosen_on hl (by omega) hb.1 hb.2
    have e2 := f_chosen_on (W := W) (k := k + 1) (st := s') h.chosen_on hlp (by omega) hb.1 hb.2
    have ec := chosen_pk (n := m) (rs := rs) (S := S) hl.each htS hb.1 hb.2
    rw [← hps] at ec
    rw [ec] at e2
    have ev : PyData.eqv (chosenD m fun b => gI (comeL rs b) t) (chosenD m fun b => gI (comeL rs b) t) = true := eqv_same fl_chosen
    simp [e1, e2, c_ne, fl_chosen, ev]
  rintro ρ s' ⟨rfl, x6, rfl⟩
  have c170 := f_law_kept (W := W) (k := k + 7) (st := s') h.u_law_kept (S := S) hl (by omega)
  rw [seqQ_nx]
  simp [c170, -seqQ_nx]
  rw [seqQ_nx]
  have hll := hl.len
  have flad : ∀ qs : List (Int × Int), okL (m : Int) qs → flat (dLad m qs) = true := fun qs hq => fl_sh (sho_lad hq).fl (by omega)
  have edue : (dueL rs S).map (fun p => dR (rs.getD p (0, 0))) = ps.map dR := by
    have := congrArg (List.map dR) (due_rungs rs S)
    rw [List.map_map, ← hps] at this
    exact this
  have hdl : ∀ p ∈ dueL rs S, p < rs.length := fun p hp => due_lt hp
  have hclo : ∀ a b, a ∈ dueL rs S → b < a → tch (rs.getD b (0, 0)) [(rs.getD a (0, 0)).1, (rs.getD a (0, 0)).2] → b ∈ dueL rs S := fun a b ha hb ht => due_clo ha hb ht
  have hdlen : (dueL rs S).length = ps.length := by
    have := congrArg List.length edue
    simpa using this
  have hpsl : ps.length ≤ 80 := hlp.len
  generalize dueL rs S = K at *
  have hKm : K.length ≤ maxLen := by simp only [maxLen]; omega
  have hpm : ps.length ≤ maxLen := by simp only [maxLen]; omega
  have c572b : evF P W (k + 8) 572 [dLad m ps, dInts S] s' = some (.v (dLad m ps), s') := by
    have := f_pruned (W := W) (k := k + 1) (st := s') h.pruned (by omega : m ≤ 10) hlp hS
    have e : (pk ps.reverse S).reverse = ps := by rw [hps, List.reverse_reverse, pk_idem.1]
    rw [e] at this
    exact this
  rw [wSs_cons]
  refine wp_mono (Q := fun f => f = .nx [some (.v (dCell n)), some (.v (.int (m : Int))), some (.v (dLad m rs)), some (.v (dInts S)), some (.v (dLad m ps)), x, x6, some (.v (.list (K.map fun (i : Nat) => PyData.int (i : Int)))), none, none, none, none, none, y, z, u, none] s') ?_ ?_
  · simp [-seqQ_nx]
    refine wp_comp (e := fun (i : Nat) => PyData.int (i : Int)) (f := fun p => dR (rs.getD p (0, 0))) (fun p hp => ?_) ?_
    · have er : sub2 (dRs rs) (.int (p : Int)) = some (dR (rs.getD p (0, 0))) := rung_at (hdl p hp)
      simp [er, -List.getD_eq_getElem?_getD]
    refine ⟨by simpa using hKm, ?_⟩
    rw [edue]
    have el : PyData.tuple [.int (m : Int), .tuple (ps.map dR)] = dLad m ps := rfl
    have ev : PyData.eqv (dLad m ps) (dLad m ps) = true := eqv_same (flad ps hlp)
    simp [hpm, h2m, el, c_ne, flad ps hlp, ev, c572b]
  rintro _ rfl
  rw [seqQ_nx]
  simp [-seqQ_nx]
  -- the forerunners of what is kept are kept
  refine wp_loop (fun i ρ s => s = s' ∧ ∃ x8 x14 : Option RV, ρ = [some (.v (dCell n)), some (.v (.int (m : Int))), some (.v (dLad m rs)), some (.v (dInts S)), some (.v (dLad m ps)), x, x6, some (.v (.list (K.map fun (i : Nat) => PyData.int (i : Int)))), x8, none, none, none, none, y, x14, u, none]) ⟨rfl, none, z, rfl⟩ ?_ ?_
  · rintro i d ρ s hd ⟨rfl, x8, x14, rfl⟩
    obtain ⟨p, hp, rfl⟩ := map_at hd
    have hpK := List.mem_of_getElem? hp
    obtain ⟨fs, hf1, hf2, e425⟩ := f_forerunners (W := W) (k := k) (st := s) h.forerunners hl (hdl p hpK) hpK hclo
    simp [e425, -seqQ_nx]
    refine wp_comp (e := fun (i : Nat) => PyData.int (i : Int)) (f := fun _ => PyData.bool true) (fun f hf => ?_) ?_
    · have := c_inL (xs := K.map fun (i : Nat) => (i : Int)) (a := (f : Int))
      rw [List.map_map, decide_eq_true (List.mem_map_of_mem (hf1 f hf))] at this
      have e : cmp2 .isin (.int (f : Int)) (.list (K.map fun (i : Nat) => PyData.int (i : Int))) = some (.bool true) := this
      simp [e]
    · have hfm : fs.length ≤ maxLen := by simp only [maxLen]; omega
      refine ⟨by simpa using hfm, ?_⟩
      have ea : blt .all [.list (fs.map fun _ => PyData.bool true)] = some (.v (.bool true)) := by
        rw [b_allG (fun _ => true)]
        have : fs.all (fun _ => true) = true := List.all_eq_true.mpr fun _ _ => rfl
        rw [this]
      simp only [d_o, ea, wp_some]
      simp
  rintro ρ s ⟨rfl, x8, x14, rfl⟩
  rw [seqQ_nx]
  -- pairs that are known
  have c489 := f_known_pairs (W := W) (k := k) (st := s) h.known_pairs hl (by omega : m ≤ 8)
  have c489b := f_known_pairs (W := W) (k := k) (st := s) h.known_pairs hlp (by omega : m ≤ 8)
  have el1 : blt .len [dRs rs] = some (.v (.int (rs.length : Int))) := by simp [dRs]
  have el2 : blt .len [dRs ps] = some (.v (.int (ps.length : Int))) := by simp [dRs]
  have knm : ∀ qs : List (Int × Int), ((knL m qs).filter fun p => decide ((p.1 : Int) ∈ S) && decide ((p.2 : Int) ∈ S)).length ≤ maxLen := fun qs => by
    have h1 := List.length_filter_le (fun p : Nat × Nat => decide ((p.1 : Int) ∈ S) && decide ((p.2 : Int) ∈ S)) (knL m qs)
    have h2 := knL_len (n := m) (rs := qs)
    have h3 : m * m ≤ 36 := Nat.mul_le_mul m6 m6
    simp only [maxLen]; omega
  have inS : ∀ a : Int, cmp2 .isin (.int a) (dInts S) = some (.bool (decide (a ∈ S))) := fun a => c_inT
  simp [el1, c489, -seqQ_nx]
  refine wp_compIf (e := pairN) (p := fun p => decide ((p.1 : Int) ∈ S) && decide ((p.2 : Int) ∈ S)) (f := pairN) (fun p hp => ?_) ?_
  · by_cases a1 : (p.1 : Int) ∈ S
    · by_cases a2 : (p.2 : Int) ∈ S <;> simp [pairN, inS, a1, a2]
    · simp [pairN, inS, a1]
  refine ⟨by rw [List.length_map]; exact knm rs, ?_⟩
  rw [seqQ_nx]
  simp [el2, c489b, -seqQ_nx]
  refine wp_compIf (e := pairN) (p := fun p => decide ((p.1 : Int) ∈ S) && decide ((p.2 : Int) ∈ S)) (f := pairN) (fun p hp => ?_) ?_
  · by_cases a1 : (p.1 : Int) ∈ S
    · by_cases a2 : (p.2 : Int) ∈ S <;> simp [pairN, inS, a1, a2]
    · simp [pairN, inS, a1]
  refine ⟨by rw [List.length_map]; exact knm ps, ?_⟩
  have ekn := knL_eq (n := m) (rs := rs) (S := S) hl.each
  rw [← hps] at ekn
  rw [← ekn]
  have knm' := knm rs
  generalize ((knL m rs).filter fun p => decide ((p.1 : Int) ∈ S) && decide ((p.2 : Int) ∈ S)) = L at *
  have flL : flat (.list (L.map pairN)) = true := fl_sh (n := 2) (sh_list fun d hd => by
    obtain ⟨a, _, rfl⟩ := List.mem_map.mp hd
    exact sh_tup fun e he => by
      simp only [List.mem_cons, List.not_mem_nil, or_false] at he
      rcases he with rfl | rfl <;> exact sh_int) (by omega)
  have evL : PyData.eqv (.list (L.map pairN)) (.list (L.map pairN)) = true := eqv_same flL
  rw [seqQ_nx]
  have c712 := f_watched (W := W) (k := k + 1) (st := s) h.watched (by omega : m ≤ 10) hl hS
  simp [c_ne, flL, evL, -seqQ_nx]
  refine wp_comp (e := PyData.int) (f := fun _ => PyData.bool true) (fun t ht => ?_) ?_
  · have e : cmp2 .isin (.int t) (dInts (sortI (psn rs.reverse S))) = some (.bool true) := by
      have e0 := c_inT (xs := sortI (psn rs.reverse S)) (a := t)
      rw [decide_eq_true ((sortI_perm _).mem_iff.mpr (psn_sup ht))] at e0
      exact e0
    simp [c712, e]
  refine ⟨by simpa using hSm, ?_⟩
  have eaS : blt .all [.list (S.map fun _ => PyData.bool true)] = some (.v (.bool true)) := by
    rw [b_allG (fun _ => true)]
    have : S.all (fun _ => true) = true := List.all_eq_true.mpr fun _ _ => rfl
    rw [this]
  simp only [d_o, eaS, wp_some]
  simp [-seqQ_nx]
  rw [seqQ_nx]
  -- idle rungs left out
  obtain ⟨bs, hbs⟩ : ∃ bs, bs = lessB rs (idleB m rs) := ⟨_, rfl⟩
  have hlb : okL (m : Int) bs := by rw [hbs]; exact okL_less hl
  have c722 := f_without_idle (W := W) (k := k + 1) (st := s) h.without_idle hl (by omega : m ≤ 8)
  rw [← hbs] at c722
  have c599 := f_same_outs (W := W) (k := k) (st := s) h.same_outs hlb hl (by omega : m ≤ 8) fun b hb => by
    have := bare_come (n := m) (rs := rs) hb rs.length (Nat.le_refl _)
    rw [List.take_length, ← hbs] at this
    exact this
  have c658 := f_sorts_told (W := W) (k := k + 1) (st := s) h.sorts_told hl (by omega : m ≤ 8)
  have fsm : flat (.tuple [.str "same"]) = true := by decide +kernel
  have esm : PyData.eqv (.tuple [.str "same"]) (.tuple [.str "same"]) = true := by decide +kernel
  have fso : flat (.tuple [.str "sorts"]) = true := by decide +kernel
  have h1m : 1 ≤ maxLen := by simp [maxLen]
  simp [c722, -seqQ_nx]
  rw [seqQ_nx, wSs_cons]
  refine wp_mono (Q := fun f => f = .nx [some (.v (dCell n)), some (.v (.int (m : Int))), some (.v (dLad m rs)), some (.v (dInts S)), some (.v (dLad m ps)), x, x6, some (.v (.list (K.map fun (i : Nat) => PyData.int (i : Int)))), x8, some (.v (.list (L.map pairN))), some (.v (.list (L.map pairN))), some (.v (dLad m bs)), none, y, x14, u, none] s) ?_ ?_
  · cases qf : firstO m rs with
    | none =>
      have et : toldS m rs = .tuple [.str "sorts"] := by unfold toldS; rw [qf]
      rw [et] at c658
      have eso : PyData.eqv (.tuple [.str "sorts"]) (.tuple [.str "sorts"]) = true := by decide +kernel
      obtain ⟨R, hR, c683⟩ := f_thinned (W := W) (k := k) (st := s) h.thinned hl (by omega : m ≤ 8) (by rw [qf]; rfl)
      have hRb : R.length ≤ bs.length := by rw [hbs, bare_len]; exact hR
      have eR : blt .len [dRs R] = some (.v (.int (R.length : Int))) := by simp [dRs]
      have eB : blt .len [dRs bs] = some (.v (.int (bs.length : Int))) := by simp [dRs]
      have ngt : ¬ (bs.length : Int) < (R.length : Int) := by omega
      simp [c599, c658, c683, c_ne, c_eq, fsm, esm, fso, eso, h1m, eR, eB]
      omega
    | some b =>
      have et : toldS m rs = .tuple [.str "bits", dInts b] := by unfold toldS; rw [qf]
      rw [et] at c658
      have f2 : flat (.tuple [.str "bits", dInts b]) = true := fl_sh (n := 2) (sh_tup fun d hd => by
        simp only [List.mem_cons, List.not_mem_nil, or_false] at hd
        rcases hd with rfl | rfl
        · simp [shal, PyData.plain, PyData.depth]
        · exact sh_ints) (by omega)
      have e2 : PyData.eqv (.tuple [.str "bits", dInts b]) (.tuple [.str "sorts"]) = false := by simp [PyData.eqv, PyData.eqvAll]
      simp [c599, c658, c_ne, c_eq, fsm, esm, fso, f2, e2, h1m]
  rintro _ rfl
  rw [seqQ_nx]
  simp [-seqQ_nx]
  refine f_take h.u_law_take (by omega) ?_ hp6 (by omega) fun w s7 w1 w2 hp7 hl7 => ?_
  · exact bd_of (by omega) (by omega)
  obtain ⟨j, rfl⟩ := Int.eq_ofNat_of_zero_le w1
  have hj : j ≤ m := by omega
  simp [-seqQ_nx]
  rw [seqQ_nx]
  have c691 := f_top_ladder (W := W) (k := k + 4) (st := s7) h.top_ladder (by omega : m ≤ 8) m1 hj
  have hlt : okL (m : Int) (topR m j) := ⟨by omega, by omega, Nat.le_trans (topR_len (by omega) hj) (by omega), topR_ok hj⟩
  have c567 := f_parts_told (W := W) (k := k + 1) (st := s7) h.parts_told hlt (by omega : m ≤ 8) hj
  have etp : toldP m (topR m j) j = .tuple [.str "parts"] := by unfold toldP; rw [mixL_top (by omega) hj]
  rw [etp] at c567
  have fpa : flat (.tuple [.str "parts"]) = true := by decide +kernel
  have epa : PyData.eqv (.tuple [.str "parts"]) (.tuple [.str "parts"]) = true := by decide +kernel
  have c513 := f_less_none (W := W) (k := k) (st := s7) h.less_rungs hl
  have evr : PyData.eqv (dLad m rs) (dLad m rs) = true := eqv_same (flad rs hl)
  have h0m : 0 ≤ maxLen := Nat.zero_le _
  simp [c691, c567, c513, c_eq, fpa, epa, flad rs hl, evr, h1m]
  exact ⟨by omega, q _ (hp7.mono (by omega)) (by omega)⟩

-- AHEAD _eqv
-- AHEAD _lad_simp
-- USE _rows_math
-- USE _sort_math
-- USE _repr_math
-- USE _g_bool
-- USE _g_sorted
-- USE _g_some
-- USE _g_lot
-- USE _g_usort
-- USE _g_near
-- USE _g_inl
-- USE _g_chosen
-- USE _g_prunedm
-- USE _g_pruned
-- USE _g_val
-- USE _g_shown
-- USE _g_leL
-- USE _g_rows5
-- USE _k51_m
-- USE _k51_a
-- USE _g_sorts
-- USE _k77_m
-- USE _k77_a
-- USE _k77_b
-- USE _k77_c
-- USE _k77_d
-- USE _k77_e
-- REN first_wrong first_wrong_choosing 418 747
theorem pure_law : ∀ ns : List Int, ns.length ≤ 63 → ∃ st', evSs (evF prog 1000 9) 1000 b_law (initE 4 [.list (ns.map .int)]) [] = some (.rt (.v (.bool true)) st') := by
  intro ns hn
  suffices h : wp (evSs (evF prog 1000 9) 1000 b_law (initE 4 [.list (ns.map .int)]) []) (fun f => ∃ st', f = .rt (.v (.bool true)) st') by
    obtain ⟨_, e, st', rfl⟩ := h
    exact ⟨st', e⟩
  obtain ⟨m, hm, hc⟩ := f_cells (W := 1000) (k := 8) (st := []) h_u_law_cells (n := 3) (ns := ns) (by omega) (by omega)
  simp [b_law, -seqQ_nx, hc]
  refine wp_loop (fun i ρ st => ∃ y z : Option RV, ρ = [some (RV.v (.list (ns.map .int))), y, z, none]) ⟨none, none, rfl⟩ ?_ ?_
  · rintro i d ρ st hd ⟨y, z, rfl⟩
    obtain ⟨p, hp, rfl⟩ := map_at hd
    obtain ⟨ds, hds, ep⟩ := f_pot (W := 1000) (k := 8) (st := st) h_u_law_pot (ns := ns) (p := p) (by
      have := List.mem_of_getElem? hp
      rw [List.mem_range] at this
      omega)
    simp [turnF, ep, -seqQ_nx]
    rw [seqQ_nx]
    simp [-seqQ_nx]
    rw [seqQ_nx]
    have hr3 : rangeOf [.int 3] = some (rangeL 0 3) := rangeOf_nat (n := 3) (by omega)
    simp [hr3, -seqQ_nx]
    refine wp_mapI (fun i out s => PotAt st.length (2000 * i) s ∧ out = List.replicate i (.bool true)) ⟨⟨ds, by simp, hds⟩, rfl⟩ ?_ ?_
    · rintro i' d' out s hd' ⟨hpi, rfl⟩
      have hi4 : i' < 3 := by
        have := (List.getElem?_eq_some_iff.mp hd').1
        simpa [rangeL] using this
      simp
      refine f_rightP (k := 0) h_u_law_right hpi (by omega) fun s' hs' _ => ?_
      exact ⟨hs'.mono (by omega), by rw [List.replicate_succ']; rfl⟩
    · rintro out s ⟨hpi, rfl⟩
      have e4 : (rangeL 0 3).length = 3 := by simp [rangeL]
      have ea : blt .all [.list [.bool true, .bool true, .bool true]] = some (.v (.bool true)) := rfl
      have hm4 : 3 ≤ maxLen := by simp [maxLen]
      rw [e4] at hpi
      simp [e4, ea, hm4]
  · rintro ρ st ⟨y, z, rfl⟩
    simp

end
end Ev.Lw
set_option maxHeartbeats 0
open PySem PySem.W PySem.Calls PyProof.Rows
theorem PySem.Challenge.cw_everyrungdown_k77_whole_pruned_chosen_an_holds : PySem.Challenge.rw_everyrungdown_k77_whole_pruned_chosen_an.Holds := by
  w_on; o_law
  refine HandSHeadRun.head_any (r := OpenLaw.row PySem.Challenge.rw_everyrungdown_k77_whole_pruned_chosen_an) (q := view (OpenLaw.row PySem.Challenge.rw_everyrungdown_k77_whole_pruned_chosen_an).prog [107]) (H := Ev.Lw.hk) (ob := Ev.Lw.ob) (M := 5200) (loose := Ev.Lw.loose) (d := HandSHeadRun.topDef (OpenLaw.row PySem.Challenge.rw_everyrungdown_k77_whole_pruned_chosen_an).prog 107) (kwd := []) Ev.Lw.ob_eq
    (by kernel_rfl) (fun s => by kernel_rfl) Ev.Lw.run (by kernel_rfl) (by kernel_rfl) (by kernel_rfl) (by rfl) (by first | assumption | decide +kernel) (by decide +kernel) ⟨rfl, rfl, rfl, rfl, rfl, by decide +kernel⟩ ?hw ?hc
  case hw => w_witness2
  case hc =>
    refine Ev.walk_G (l := PySem.Challenge.rw_everyrungdown_k77_whole_pruned_chosen_an) (n := 63) (k := 10) (x := "script") rfl (by decide) (by kernel_rfl) ⟨rfl, by decide, by decide⟩ ?F
    intro w mg f h Y hn hm
    obtain ⟨K, X, c, ct⟩ := Y
    have hf : mg ("law" : PySem.Str) = some (.ref f) := by
      have e : (HandSHeadRun.topDef (OpenLaw.row PySem.Challenge.rw_everyrungdown_k77_whole_pruned_chosen_an).prog 107).name = ("law" : PySem.Str) := by kernel_rfl
      rw [← e]
      exact hm
    exact Ev.Lw.facts X hn hf c ct Ev.Lw.pure_law
