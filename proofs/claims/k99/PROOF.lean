import PyProof.Rows.All
import Wide.All
import OpenK.AllK
import Wide.FinOn
import HandS.ForMost
import HandS.ForExc
import HandS.Deep
import HandS.TupAny
import HandS.TupMul
import HandS.Wide
import HandS.IsInst
import HandS.TupLe
import HandS.Flow
import HandS.NoneIn
import HandS.Style
import HandS.SortRule
import PyProof.MinMaxWalk
import PyProof.WalksMore
import HandS.FltList
import PyProof.MaxThree
import HandS.RaiseMore
import HandS.Codes
import PyProof.ReprRoads
import KE.KExcStr
import HandS.Comp
import HandS.Iter
import HandS.Exc
import HandS.ExcIs
import HandS.ExcOwn
import HandS.ExcField
import HandS.WordsExc
import KE.GoesMore
import KE.KExcIs
import HandS.Small
import KE.KUnpackStar
import PyProof.ExcBaseAll.ValueError
import HandS.Ends
import HandS.More
import HandS.Words
import HandS.HeadEnd
import HandS.ExcInit
import KE.KExcInit
import PyProof.ExcBaseAll.LookupError
import PyProof.FactsTree
import PyProof.ExcBaseAll.IndexError
import PyProof.ExcBaseAll.OverflowError
import PyProof.ExcBaseAll.RuntimeError
import HandS.Defaults
import KE.IntTextLaws
import PySem.Challenge.RW_roomprofile_k99_errors_of_the_package
set_option Elab.async false
set_option linter.all false
set_option maxRecDepth 100000
set_option maxHeartbeats 4000000
/-! Mi: a small deterministic reader of the program's text, over data as plain values. -/
namespace Mi
open PySem

/-- a value: data, an object of the heap, a def of the module -/
inductive Vl where
  | d (x : PyData)
  | ref (n : Nat)
  | fn (n : Nat)
  | scr (xs : List Int)

/-- an object that is changed in place and met by more than one name -/
inductive Ob where
  | lst (xs : List PyData)


abbrev Sh := List Ob

/-- an error: its class, the value that it keeps -/
structure Er where
  c : Nat
  v : Option PyData

inductive R (α : Type) where
  | ok (a : α) (h : Sh)
  | ex (x : Er) (h : Sh)
  | no

@[inline] def R.bind {α β : Type} (r : R α) (f : α → Sh → R β) : R β :=
  match r with
  | .ok a h => f a h
  | .ex x h => .ex x h
  | .no => .no

/-- a local name: unset, a value, a list that this frame alone holds -/
inductive Sl where
  | no
  | v (x : Vl)
  | own (xs : List PyData)

abbrev En := List Sl

/-- built-in calls on data -/
inductive BI where
  | len | abs | min | max | sum | int | str | repr | tuple | list | all | any | sorted
  deriving DecidableEq

/-- types of isinstance -/
inductive Ty where
  | int | str | bool | tuple | list | dict
  deriving DecidableEq

/-- methods of data -/
inductive ME where
  | join | split | words | partition | count | replace | index | get
  deriving DecidableEq

/-- targets -/
inductive Tg where
  | n (i : Nat)
  | t (is : List Nat)
  | st (is : List Nat) (r : Nat)

inductive It where
  | seq | range1 | range2 | enum | zip

mutual
inductive Te where
  | cst (v : PyData)
  | var (i : Nat)
  | peek (i : Nat)
  | glob (g : Nat)
  | bin (op : Operator) (a b : Te)
  | cmp (op : CmpOp) (a b : Te)
  | chain (o1 o2 : CmpOp) (a b c : Te)
  | and (es : List Te)
  | or (es : List Te)
  | not (e : Te)
  | ite (t a b : Te)
  | neg (e : Te)
  | tup (es : List Te)
  | dict0
  | ofL (l : Tl)
  | newl (l : Tl)
  | ix (a i : Te)
  | sliceF (a lo : Te)
  | sliceT (a hi : Te)
  | sliceB (a lo hi : Te)
  | rev (a : Te)
  | call (f : Nat) (es : List Te)
  | bi (b : BI) (es : List Te)
  | isi (e : Te) (ts : List Ty)
  | mkm (i : Nat) (x : Str) (e : Te)
  | mkv (i : Nat) (x f : Str) (e : Te)
  | ixe (e : Te) (y : Str) (yes nay : List Str)
  | attr (e : Te) (i : Nat) (x f : Str)
  | me (m : ME) (r : Te) (es : List Te)
inductive Tl where
  | disp (es : List Te)
  | comp (elt : Te) (tg : Tg) (k : It) (es : List Te) (cs : List Te)
  | cat (a b : Te)
end

inductive Tm where
  | e (p : Te)
  | l (p : Tl)

/-- tests, values of an except suite -/
inductive Ht where
  | isx (c : Nat) (cls : List Nat)
  | and (a b : Ht)
  | or (a b : Ht)
  | not (a : Ht)
inductive He where
  | cst (d : PyData)
  | ite (t : Ht) (a b : He)

inductive Ts where
  | doc
  | asg (tg : Tg) (e : Te)
  | own (i : Nat) (l : Tl)
  | par (is : List Nat) (es : List Tm)
  | ownix (s : Nat) (i e : Te)
  | freeze (i : Nat)
  | aug (i : Nat) (op : Operator) (e : Te)
  | setix (r i e : Te)
  | app (s : Nat) (e : Te)
  | ext (s : Nat) (e : Te)
  | expr (e : Te)
  | ret (e : Te)
  | retN
  | iff (t : Te) (a b : List Ts)
  | for (tg : Tg) (k : It) (es : List Te) (body : List Ts)
  | while (t : Te) (body : List Ts)
  | raise (c : Nat)
  | tryE (body : List Ts) (c : Nat) (cls : List Nat) (i : Nat) (hd : He)
  | brk
  | cont
  | pass
  | stop
  | raiseV (c : Nat) (e : Te)
  | tryA (body : List Ts) (c : Nat) (cls : List Nat) (i : Nat)
  | augix (s : Nat) (i : Te) (k : Int)
  | augr (r i : Te) (k : Int)
  | asgl (i : Nat) (l : Tl)

inductive Out where
  | nx (e : En)
  | rt (v : Vl)
  | bk (e : En)
  | ct (e : En)

end Mi
namespace Mi
open PySem

/-! ### data -/
def LIM : Nat := 10 ^ 2000
def okI (i : Int) : Bool := decide (i.natAbs < LIM)
def LIS : Nat := 10 ^ 570
def okS (i : Int) : Bool := decide (i.natAbs < LIS)
def SZ : Nat := 16777216

def truD : PyData → Option Bool
  | .none => some false
  | .bool b => some b
  | .int i => some (i != 0)
  | .str x => if x.length ≤ SZ then some (decide (x.length ≠ 0)) else none
  | .list xs => some (!xs.isEmpty)
  | .tuple xs => some (!xs.isEmpty)
  | .dict _ => none
def truV : Vl → Option Bool
  | .d x => truD x
  | _ => none

def flatD : PyData → Bool
  | .none => true
  | .bool _ => true
  | .int _ => true
  | .str _ => true
  | _ => false

/-- == of data -/
def eqD : PyData → PyData → Option Bool
  | .tuple xs, .tuple [] => some xs.isEmpty
  | .list xs, .list [] => some xs.isEmpty
  | a, b => if (flatD a && flatD b) || (SeqAt.shaped a && SeqAt.shaped b) then some (PyData.eqv a b) else none

def inD (x : PyData) (ys : List PyData) : Option Bool :=
  if flatD x && ys.all flatD then some (ys.any fun y => PyData.eqv y x)
  else if SeqAt.shaped x && SeqAt.shaped (.list ys) then some (ys.any fun y => PyData.eqv y x) else none

def intsOf : List PyData → Option (List Int)
  | [] => some []
  | .int i :: r => (intsOf r).map (i :: ·)
  | _ => none
def boolsOf : List PyData → Option (List Bool)
  | [] => some []
  | .bool b :: r => (boolsOf r).map (b :: ·)
  | _ => none
def strsOf : List PyData → Option (List Str)
  | [] => some []
  | .str x :: r => (strsOf r).map (x :: ·)
  | _ => none

def repL (n : Nat) (xs : List PyData) : List PyData := (List.replicate n xs).flatten

def repS (n : Nat) (x : Str) : Str := ⟨((List.replicate n x.cps.toList).flatten).toArray⟩
def binD : Operator → PyData → PyData → Option PyData
  | .Add, .int i, .int j => some (.int (i + j))
  | .Add, .str x, .str y => if x.length + y.length ≤ SZ then some (.str (x ++ y)) else none
  | .Add, .list xs, .list ys => if xs.length + ys.length ≤ SZ then some (.list (xs ++ ys)) else none
  | .Add, .tuple xs, .tuple ys => if xs.length + ys.length ≤ SZ then some (.tuple (xs ++ ys)) else none
  | .Sub, .int i, .int j => some (.int (i - j))
  | .Mult, .int i, .int j => if okI i && okI j then some (.int (i * j)) else none
  | .Mult, .list xs, .int n => if -1000 ≤ n ∧ n ≤ 1000 ∧ xs.length ≤ 1000 then some (.list (repL n.toNat xs)) else none
  | .Mult, .tuple xs, .int n => if 1 ≤ n ∧ n ≤ 1000 ∧ xs.length ≤ 1000 ∧ xs.isEmpty = false then some (.tuple (repL n.toNat xs)) else none
  | .Mult, .str x, .int n => if 0 ≤ n ∧ n ≤ 10000 ∧ x.length ≤ 1000 then some (.str (repS n.toNat x)) else none
  | .FloorDiv, .int i, .int j => if decide (0 < j) && okI j then some (.int (i / j)) else none
  | .Mod, .int i, .int j => if 0 < j then some (.int (i % j)) else none
  | .Pow, .int i, .int j => if decide (0 ≤ j ∧ j ≤ 100) && okI i then some (.int (i ^ j.toNat)) else none
  | .BitAnd, .int i, .int j => some (.int (Builtin.bitAnd i j))
  | .BitOr, .int i, .int j => some (.int (Builtin.bitOr i j))
  | _, _, _ => none

def isN : PyData → Bool
  | .none => true
  | _ => false
/-- one sign in a text -/
def inS (x y : Str) : Option Bool :=
  match x.cps.toList with
  | [c] => some (decide (c ∈ y.cps.toList))
  | _ => none

def cmpD : CmpOp → PyData → PyData → Option Bool
  | .Eq, a, b => eqD a b
  | .NotEq, a, b => (eqD a b).map (!·)
  | .Lt, .int i, .int j => some (decide (i < j))
  | .LtE, .int i, .int j => some (decide (i ≤ j))
  | .Gt, .int i, .int j => some (decide (j < i))
  | .GtE, .int i, .int j => some (decide (j ≤ i))
  | .Is, a, .none => some (isN a)
  | .IsNot, a, .none => some (!isN a)
  | .Is, .bool a, .bool b => some (a == b)
  | .IsNot, .bool a, .bool b => some (a != b)
  | .In, x, .tuple ys => inD x ys
  | .In, x, .list ys => inD x ys
  | .In, .str x, .str y => inS x y
  | .NotIn, .str x, .str y => (inS x y).map (!·)
  | .NotIn, x, .tuple ys => (inD x ys).map (!·)
  | .NotIn, x, .list ys => (inD x ys).map (!·)
  | _, _, _ => none

def ixD : PyData → Int → Option PyData
  | .tuple xs, i => L2.atI xs i
  | .list xs, i => L2.atI xs i
  | .str x, i => if x.length ≤ SZ then (L2.atI x.cps.toList i).map fun c => .str ⟨#[c]⟩ else none
  | _, _ => none

def cut {α : Type} (xs : List α) (lo hi : Option Int) : List α :=
  (xs.drop (HT.sIx xs.length 0 lo)).take (HT.sIx xs.length xs.length hi - HT.sIx xs.length 0 lo)
def sliceD : PyData → Option Int → Option Int → Option PyData
  | .tuple xs, lo, hi => some (.tuple (cut xs lo hi))
  | .list xs, lo, hi => some (.list (cut xs lo hi))
  | .str x, lo, hi => if x.length ≤ SZ then some (.str (L2.cutS x lo hi)) else none
  | _, _, _ => none
def revD : PyData → Option PyData
  | .tuple xs => some (.tuple xs.reverse)
  | .list xs => some (.list xs.reverse)
  | .str x => if x.length ≤ SZ then some (.str ⟨x.cps.toList.reverse.toArray⟩) else none
  | _ => none

def isT : Ty → PyData → Bool
  | .int, .int _ => true
  | .int, .bool _ => true
  | .str, .str _ => true
  | .bool, .bool _ => true
  | .tuple, .tuple _ => true
  | .list, .list _ => true
  | .dict, .dict _ => true
  | _, _ => false

def maxL : List Int → Option Int
  | [] => none
  | i :: r => some (r.foldl (fun m x => if x > m then x else m) i)
def minL : List Int → Option Int
  | [] => none
  | i :: r => some (r.foldl (fun m x => if x < m then x else m) i)

/-- an error as data: its class -/
def errOf : PyData → Option Str
  | .dict [(.none, .tuple [.str x, .str _])] => some x
  | .dict [(.none, .list [.str x, .str _, _])] => some x
  | _ => none
mutual
/-- no error in it -/
def noE : PyData → Bool
  | .list xs => noEs xs
  | .tuple xs => noEs xs
  | .dict kvs => kvs.isEmpty
  | _ => true
def noEs : List PyData → Bool
  | [] => true
  | x :: xs => noE x && noEs xs
end
def showOk (d : PyData) : Bool := noE d && d.showable && decide (d.shown.length ≤ SZ) && decide (d.depth ≤ 150)

def pairsI : List PyData → Option (List (Int × Int))
  | [] => some []
  | .tuple [.int i, .int j] :: r => (pairsI r).map ((i, j) :: ·)
  | _ => none
/-- before: by the first, then by the second -/
def befP (p q : Int × Int) : Bool := if p.1 = q.1 then decide (p.2 < q.2) else decide (p.1 < q.1)
def insP (p : Int × Int) : List (Int × Int) → List (Int × Int)
  | [] => [p]
  | q :: r => if befP q p then q :: insP p r else p :: q :: r
def sortP : List (Int × Int) → List (Int × Int)
  | [] => []
  | p :: r => insP p (sortP r)
def pairD (p : Int × Int) : PyData := .tuple [.int p.1, .int p.2]
def minP : List (Int × Int) → Option (Int × Int)
  | [] => none
  | p :: r => some (r.foldl (fun m x => if befP x m then x else m) p)

def biD : BI → List PyData → Option PyData
  | .len, [.tuple xs] => some (.int xs.length)
  | .len, [.list xs] => some (.int xs.length)
  | .len, [.str x] => if x.length ≤ SZ then some (.int x.length) else none
  | .abs, [.int i] => some (.int (if i < 0 then -i else i))
  | .max, [.int i, .int j] => some (.int (if j > i then j else i))
  | .max, [.int i, .int j, .int k] => some (.int (if j > i then (if k > j then k else j) else (if k > i then k else i)))
  | .min, [.int i, .int j] => some (.int (if j < i then j else i))
  | .max, [.list xs] => (intsOf xs).bind fun ns => (maxL ns).map .int
  | .min, [.list xs] => match intsOf xs with
    | some ns => (minL ns).map .int
    | none => (pairsI xs).bind fun ps => (minP ps).map pairD
  | .sum, [.list xs] => (intsOf xs).map fun ns => .int ns.sum
  | .int, [.int i] => some (.int i)
  | .int, [.bool b] => some (.int (if b then 1 else 0))
  | .int, [.str x] => if x.length ≤ 640 then (intText? x).map .int else none
  | .str, [.int i] => if okS i then some (.str (Str.ofString (toString i))) else none
  | .str, [.str x] => some (.str x)
  | .str, [.dict [(.none, .tuple [.str _, .str m])]] => some (.str m)
  | .repr, [d] => if showOk d then some (.str d.shown) else none
  | .tuple, [.list xs] => some (.tuple xs)
  | .tuple, [.tuple xs] => some (.tuple xs)
  | .list, [.list xs] => some (.list xs)
  | .list, [.tuple xs] => some (.list xs)
  | .all, [.list xs] => (boolsOf xs).map fun bs => .bool (bs.all id)
  | .any, [.list xs] => (boolsOf xs).map fun bs => .bool (bs.any id)
  | .sorted, [.list xs] => (pairsI xs).map fun ps => .list ((sortP ps).map pairD)
  | _, _ => none

def meD : ME → PyData → List PyData → Option PyData
  | .join, .str a, [.list xs] => (strsOf xs).bind fun ys => if (ys.map (·.length)).sum + ys.length * a.length ≤ SZ then some (.str (Txt.join a ys)) else none
  | .split, .str a, [.str b] => if (b.length == 0) = false ∧ a.length + 2 ≤ SZ then some (.list ((Txt.split a b).map .str)) else none
  | .words, .str a, [] => if a.length + 2 ≤ SZ then some (.list ((Txt.words a).map .str)) else none
  | .partition, .str a, [.str b] => if (b.length == 0) = false ∧ a.length ≤ SZ then some (.tuple [.str (Txt.partition a b).1, .str (Txt.partition a b).2.1, .str (Txt.partition a b).2.2]) else none
  | .count, .str a, [.str b] => some (.int (Txt.count a b))
  | .index, .str a, [.str b] => (PySem.Builtin.Str.occurrences a b 0 a.length 1).head?.map fun (i : Nat) => PyData.int (i : Int)
  | _, _, _ => none

/-! ### running -/
def lift (o : Option PyData) (h : Sh) : R Vl :=
  match o with
  | some x => .ok (.d x) h
  | none => .no

def datL : List Vl → Option (List PyData)
  | [] => some []
  | .d x :: r => (datL r).map (x :: ·)
  | _ => none

/-- an item of data, or of a list of the heap -/
def ixV (h : Sh) : Vl → Vl → Option PyData
  | .d x, .d (.int i) => ixD x i
  | .ref n, .d (.int i) => match h[n]? with
    | some (.lst xs) => L2.atI xs i
    | none => none
  | .scr xs, .d (.int i) => (L2.atI xs i).map .int
  | _, _ => none
/-- len, of a list of the heap too -/
def lenV (h : Sh) : List Vl → Option PyData
  | [.ref n] => match h[n]? with
    | some (.lst xs) => some (.int xs.length)
    | none => none
  | [.scr xs] => some (.int xs.length)
  | _ => none

/-- the sum of a list of the heap -/
def sumV (h : Sh) : List Vl → Option PyData
  | [.ref n] => match h[n]? with
    | some (.lst xs) => (intsOf xs).map fun ns => .int ns.sum
    | none => none
  | _ => none

def bindIs : List Nat → List PyData → En → Option En
  | [], [], e => some e
  | i :: is, x :: xs, e => bindIs is xs (e.set i (.v (.d x)))
  | _, _, _ => none
def bindSt : List Nat → Nat → List PyData → En → Option En
  | [], r, xs, e => some (e.set r (.v (.d (.list xs))))
  | i :: is, r, x :: xs, e => bindSt is r xs (e.set i (.v (.d x)))
  | _, _, _, _ => none
def bindTg : Tg → Vl → En → Option En
  | .n i, x, e => some (e.set i (.v x))
  | .t is, .d (.tuple xs), e => bindIs is xs e
  | .t is, .d (.list xs), e => bindIs is xs e
  | .st is r, .d (.tuple xs), e => bindSt is r xs e
  | _, _, _ => none
def Tg.names : Tg → List Nat
  | .n i => [i]
  | .t is => is
  | .st is r => is ++ [r]
def wipeE : List Nat → En → En
  | [], e => e
  | i :: is, e => (wipeE is e).set i .no

def pairs : Nat → List PyData → List Vl
  | _, [] => []
  | k, x :: r => .d (.tuple [.int k, x]) :: pairs (k + 1) r
def zips : List PyData → List PyData → List Vl
  | x :: xs, y :: ys => .d (.tuple [x, y]) :: zips xs ys
  | _, _ => []
def rng (lo : Int) : Nat → List Vl
  | 0 => []
  | n + 1 => .d (.int lo) :: rng (lo + 1) n
def seqD : PyData → Option (List PyData)
  | .tuple xs => some xs
  | .list xs => some xs
  | .str x => some (x.cps.toList.map fun c => .str ⟨#[c]⟩)
  | _ => none
def evIt : It → List Vl → Option (List Vl)
  | .seq, [.d x] => (seqD x).map fun xs => xs.map .d
  | .range1, [.d (.int n)] => if -1000000 ≤ n ∧ n ≤ 1000000 then some (rng 0 n.toNat) else none
  | .range2, [.d (.int i), .d (.int j)] => if -1000000 ≤ i ∧ i ≤ 1000000 ∧ -1000000 ≤ j ∧ j ≤ 1000000 then some (rng i (j - i).toNat) else none
  | .enum, [.d (.list xs)] => some (pairs 0 xs)
  | .enum, [.d (.tuple xs)] => some (pairs 0 xs)
  | .zip, [.d (.list xs), .d (.list ys)] => some (zips xs ys)
  | _, _ => none

def noEx {α : Type} : R α → R α
  | .ok a h => .ok a h
  | .ex _ _ => .no
  | .no => .no

def compLoop (tg : Tg) (cond : En → Sh → R Bool) (elt : En → Sh → R Vl) (env : En) : List Vl → Sh → R (List PyData)
  | [], h => .ok [] h
  | x :: xs, h =>
    match bindTg tg x env with
    | none => .no
    | some env' => (noEx (cond env' h)).bind fun b h1 =>
      if b then (noEx (elt env' h1)).bind fun y h2 =>
        match y with
        | .d y => (compLoop tg cond elt env xs h2).bind fun ys h3 => .ok (y :: ys) h3
        | _ => .no
      else compLoop tg cond elt env xs h1

mutual
def evE (C : Nat → List Vl → Sh → R Vl) (G : Nat → Option PyData) : Te → En → Sh → R Vl
  | .cst v, _, h => .ok (.d v) h
  | .var i, env, h => match env[i]? with
    | some (.v x) => .ok x h
    | _ => .no
  | .peek i, env, h => match env[i]? with
    | some (.v x) => .ok x h
    | some (.own xs) => .ok (.d (.list xs)) h
    | _ => .no
  | .glob g, _, h => lift (G g) h
  | .bin op a b, env, h => (evE C G a env h).bind fun x h1 => (evE C G b env h1).bind fun y h2 =>
    match x, y with
    | .d x, .d y => lift (binD op x y) h2
    | _, _ => .no
  | .cmp op a b, env, h => (evE C G a env h).bind fun x h1 => (evE C G b env h1).bind fun y h2 =>
    match x, y with
    | .d x, .d y => lift ((cmpD op x y).map .bool) h2
    | _, _ => .no
  | .chain o1 o2 a b c, env, h => (evE C G a env h).bind fun x h1 => (evE C G b env h1).bind fun y h2 =>
    match x, y with
    | .d x, .d y => match cmpD o1 x y with
      | some true => (evE C G c env h2).bind fun z h3 => match z with
        | .d z => lift ((cmpD o2 y z).map .bool) h3
        | _ => .no
      | some false => .ok (.d (.bool false)) h2
      | none => .no
    | _, _ => .no
  | .and es, env, h => evAnd C G es env h
  | .or es, env, h => evOr C G es env h
  | .not e, env, h => (evE C G e env h).bind fun x h1 => match truV x with
    | some b => .ok (.d (.bool (!b))) h1
    | none => .no
  | .ite t a b, env, h => (evE C G t env h).bind fun x h1 => match truV x with
    | some true => evE C G a env h1
    | some false => evE C G b env h1
    | none => .no
  | .neg e, env, h => (evE C G e env h).bind fun x h1 => match x with
    | .d (.int i) => .ok (.d (.int (-i))) h1
    | _ => .no
  | .tup es, env, h => (evEs C G es env h).bind fun xs h1 => match datL xs with
    | some ds => if ds.length ≤ SZ then .ok (.d (.tuple ds)) h1 else .no
    | none => .no
  | .dict0, _, h => .ok (.d (.dict [])) h
  | .ofL l, env, h => (evL C G l env h).bind fun xs h1 => .ok (.d (.list xs)) h1
  | .newl l, env, h => (evL C G l env h).bind fun xs h1 => .ok (.ref h1.length) (h1 ++ [.lst xs])
  | .ix a i, env, h => (evE C G a env h).bind fun x h1 => (evE C G i env h1).bind fun y h2 => lift (ixV h2 x y) h2
  | .sliceF a lo, env, h => (evE C G a env h).bind fun x h1 => (evE C G lo env h1).bind fun y h2 =>
    match x, y with
    | .d x, .d (.int i) => lift (sliceD x (some i) none) h2
    | _, _ => .no
  | .sliceT a hi, env, h => (evE C G a env h).bind fun x h1 => (evE C G hi env h1).bind fun y h2 =>
    match x, y with
    | .d x, .d (.int i) => lift (sliceD x none (some i)) h2
    | _, _ => .no
  | .sliceB a lo hi, env, h => (evE C G a env h).bind fun x h1 => (evE C G lo env h1).bind fun y h2 =>
    match y with
    | .d (.int i) => (evE C G hi env h2).bind fun z h3 =>
      match x, z with
      | .d x, .d (.int j) => lift (sliceD x (some i) (some j)) h3
      | _, _ => .no
    | _ => .no
  | .rev a, env, h => (evE C G a env h).bind fun x h1 => match x with
    | .d x => lift (revD x) h1
    | _ => .no
  | .call f es, env, h => (evEs C G es env h).bind fun xs h1 => C f xs h1
  | .bi b es, env, h => (evEs C G es env h).bind fun xs h1 => match datL xs with
    | some ds => lift (biD b ds) h1
    | none => if b = .len then lift (lenV h1 xs) h1 else if b = .sum then lift (sumV h1 xs) h1 else .no
  | .isi e ts, env, h => (evE C G e env h).bind fun x h1 => match x with
    | .d (.dict (_ :: _)) => .no
    | .d x => .ok (.d (.bool (ts.any fun t => isT t x))) h1
    | _ => .no
  | .mkm _ x e, env, h => (evE C G e env h).bind fun v h1 => match v with
    | .d (.str m) => .ok (.d (.dict [(.none, .tuple [.str x, .str m])])) h1
    | _ => .no
  | .mkv _ x f e, env, h => (evE C G e env h).bind fun v h1 => match v with
    | .d (.int i) => .ok (.d (.dict [(.none, .list [.str x, .str f, .int i])])) h1
    | .d (.str i) => .ok (.d (.dict [(.none, .list [.str x, .str f, .str i])])) h1
    | _ => .no
  | .ixe e _ yes nay, env, h => (evE C G e env h).bind fun v h1 => match v with
    | .d d => match errOf d with
      | some x => if yes.contains x then .ok (.d (.bool true)) h1 else if nay.contains x then .ok (.d (.bool false)) h1 else .no
      | none => .no
    | _ => .no
  | .attr e _ x f, env, h => (evE C G e env h).bind fun v h1 => match v with
    | .d (.dict [(.none, .list [.str x', .str f', y])]) => if x' = x ∧ f' = f then .ok (.d y) h1 else .no
    | _ => .no
  | .me m r es, env, h => (evE C G r env h).bind fun x h1 => match x with
    | .d (.str a) => (evEs C G es env h1).bind fun xs h2 => match datL xs with
      | some ds => lift (meD m (.str a) ds) h2
      | none => .no
    | _ => .no
def evEs (C : Nat → List Vl → Sh → R Vl) (G : Nat → Option PyData) : List Te → En → Sh → R (List Vl)
  | [], _, h => .ok [] h
  | e :: r, env, h => (evE C G e env h).bind fun x h1 => (evEs C G r env h1).bind fun xs h2 => .ok (x :: xs) h2
def evAnd (C : Nat → List Vl → Sh → R Vl) (G : Nat → Option PyData) : List Te → En → Sh → R Vl
  | [], _, _ => .no
  | [e], env, h => evE C G e env h
  | e :: r, env, h => (evE C G e env h).bind fun x h1 => match truV x with
    | some true => evAnd C G r env h1
    | some false => .ok x h1
    | none => .no
def evOr (C : Nat → List Vl → Sh → R Vl) (G : Nat → Option PyData) : List Te → En → Sh → R Vl
  | [], _, _ => .no
  | [e], env, h => evE C G e env h
  | e :: r, env, h => (evE C G e env h).bind fun x h1 => match truV x with
    | some true => .ok x h1
    | some false => evOr C G r env h1
    | none => .no
def evL (C : Nat → List Vl → Sh → R Vl) (G : Nat → Option PyData) : Tl → En → Sh → R (List PyData)
  | .disp es, env, h => (evEs C G es env h).bind fun xs h1 => match datL xs with
    | some ds => if ds.length ≤ SZ then .ok ds h1 else .no
    | none => .no
  | .comp elt tg k es cs, env, h => (evEs C G es env h).bind fun xs h1 => match evIt k xs with
    | some items => if items.length ≤ SZ then compLoop tg (evC C G cs) (evE C G elt) (wipeE tg.names env) items h1 else .no
    | none => .no
  | .cat a b, env, h => (evE C G a env h).bind fun x h1 => (evE C G b env h1).bind fun y h2 =>
    match x, y with
    | .d (.list xs), .d (.list ys) => if xs.length + ys.length ≤ SZ then .ok (xs ++ ys) h2 else .no
    | _, _ => .no
def evC (C : Nat → List Vl → Sh → R Vl) (G : Nat → Option PyData) : List Te → En → Sh → R Bool
  | [], _, h => .ok true h
  | e :: r, env, h => (evE C G e env h).bind fun x h1 => match truV x with
    | some true => evC C G r env h1
    | some false => .ok false h1
    | none => .no
end

def forLoop (body : En → Sh → R Out) (tg : Tg) : List Vl → En → Sh → R Out
  | [], env, h => .ok (.nx env) h
  | x :: xs, env, h =>
    match bindTg tg x env with
    | none => .no
    | some env' => (body env' h).bind fun o h1 => match o with
      | .nx e => forLoop body tg xs e h1
      | .ct e => forLoop body tg xs e h1
      | .bk e => .ok (.nx e) h1
      | .rt v => .ok (.rt v) h1

def whLoop (test : En → Sh → R Bool) (body : En → Sh → R Out) : Nat → En → Sh → R Out
  | 0, _, _ => .no
  | k + 1, env, h => (test env h).bind fun b h1 =>
    if b then (body env h1).bind fun o h2 => match o with
      | .nx e => whLoop test body k e h2
      | .ct e => whLoop test body k e h2
      | .bk e => .ok (.nx e) h2
      | .rt v => .ok (.rt v) h2
    else .ok (.nx env) h1

def tru (r : R Vl) : R Bool := r.bind fun x h => match truV x with
  | some b => .ok b h
  | none => .no

def bindAll : List Nat → List Sl → En → Option En
  | [], [], e => some e
  | i :: is, x :: xs, e => bindAll is xs (e.set i x)
  | _, _, _ => none
def evXs (C : Nat → List Vl → Sh → R Vl) (G : Nat → Option PyData) : List Tm → En → Sh → R (List Sl)
  | [], _, h => .ok [] h
  | .e p :: r, env, h => (evE C G p env h).bind fun x h1 => (evXs C G r env h1).bind fun xs h2 => .ok (.v x :: xs) h2
  | .l p :: r, env, h => (evL C G p env h).bind fun x h1 => (evXs C G r env h1).bind fun xs h2 => .ok (.own x :: xs) h2

def evHt : Ht → Nat → Bool
  | .isx _ cls, k => cls.contains k
  | .and a b, k => evHt a k && evHt b k
  | .or a b, k => evHt a k || evHt b k
  | .not a, k => !evHt a k
def evH : He → Nat → PyData
  | .cst d, _ => d
  | .ite t a b, k => if evHt t k then evH a k else evH b k
mutual
def evS (C : Nat → List Vl → Sh → R Vl) (G : Nat → Option PyData) (W : Nat) : Ts → En → Sh → R Out
  | .asg tg e, env, h => (evE C G e env h).bind fun x h1 => match bindTg tg x env with
    | some env' => .ok (.nx env') h1
    | none => .no
  | .own i l, env, h => (evL C G l env h).bind fun xs h1 => .ok (.nx (env.set i (.own xs))) h1
  | .doc, env, h => .ok (.nx env) h
  | .par is es, env, h => (evXs C G es env h).bind fun xs h1 => match bindAll is xs env with
    | some env' => .ok (.nx env') h1
    | none => .no
  | .freeze i, env, h => match env[i]? with
    | some (.own xs) => .ok (.nx (env.set i (.v (.d (.list xs))))) h
    | _ => .no
  | .aug i op e, env, h => match env[i]? with
    | some (.v (.d x)) => (evE C G e env h).bind fun y h1 => match y with
      | .d y => if flatD x then match binD op x y with
        | some z => .ok (.nx (env.set i (.v (.d z)))) h1
        | none => .no
        else .no
      | _ => .no
    | _ => .no
  | .setix r i e, env, h => (evE C G e env h).bind fun v h1 => (evE C G r env h1).bind fun x h2 => (evE C G i env h2).bind fun y h3 =>
    match v, x, y with
    | .d v, .ref n, .d (.int j) => match h3[n]? with
      | some (.lst xs) => match L2.ixN xs.length j with
        | some k => .ok (.nx env) (h3.set n (.lst (xs.set k v)))
        | none => .no
      | _ => .no
    | _, _, _ => .no
  | .ownix s i e, env, h => match env[s]? with
    | some (.own xs) => (evE C G e env h).bind fun v h1 => (evE C G i env h1).bind fun y h2 =>
      match v, y with
      | .d v, .d (.int j) => match L2.ixN xs.length j with
        | some k => .ok (.nx (env.set s (.own (xs.set k v)))) h2
        | none => .no
      | _, _ => .no
    | _ => .no
  | .stop, _, _ => .no
  | .raiseV c e, env, h => (evE C G e env h).bind fun x h1 => match x with
    | .d v => .ex ⟨c, some v⟩ h1
    | _ => .no
  | .tryA body c cls i, env, h => match evSs C G W body env h with
    | .ex e h' => if cls.contains e.c then (match e.v with
      | some v => .ok (.rt (.d (.list [v]))) h'
      | none => .no) else .ex e h'
    | r => r
  | .asgl i l, env, h => (evE C G (.newl l) env h).bind fun x h1 => .ok (.nx (env.set i (.v x))) h1
  | .augr r i c, env, h => (evE C G r env h).bind fun x h1 => (evE C G i env h1).bind fun y h2 =>
    match x, y with
    | .ref n, .d (.int j) => match h2[n]? with
      | some (.lst xs) => match L2.ixN xs.length j with
        | some k => match xs[k]? with
          | some (.int old) => .ok (.nx env) (h2.set n (.lst (xs.set k (.int (old + c)))))
          | _ => .no
        | none => .no
      | _ => .no
    | _, _ => .no
  | .augix s i c, env, h => match env[s]? with
    | some (.own xs) => (evE C G i env h).bind fun y h1 =>
      match y with
      | .d (.int j) => match L2.ixN xs.length j with
        | some k => match xs[k]? with
          | some (.int old) => .ok (.nx (env.set s (.own (xs.set k (.int (old + c)))))) h1
          | _ => .no
        | none => .no
      | _ => .no
    | _ => .no
  | .app s e, env, h => match env[s]? with
    | some (.own xs) => (evE C G e env h).bind fun v h1 => match v with
      | .d v => if xs.length < SZ then .ok (.nx (env.set s (.own (xs ++ [v])))) h1 else .no
      | _ => .no
    | _ => .no
  | .ext s e, env, h => match env[s]? with
    | some (.own xs) => (evE C G e env h).bind fun v h1 => match v with
      | .d (.list ys) => if xs.length + ys.length ≤ SZ then .ok (.nx (env.set s (.own (xs ++ ys)))) h1 else .no
      | _ => .no
    | _ => .no
  | .expr e, env, h => (evE C G e env h).bind fun _ h1 => .ok (.nx env) h1
  | .ret e, env, h => (evE C G e env h).bind fun x h1 => .ok (.rt x) h1
  | .retN, _, h => .ok (.rt (.d .none)) h
  | .iff t a b, env, h => (tru (evE C G t env h)).bind fun c h1 => if c then evSs C G W a env h1 else evSs C G W b env h1
  | .for tg k es body, env, h => (evEs C G es env h).bind fun xs h1 => match evIt k xs with
    | some items => forLoop (evSs C G W body) tg items env h1
    | none => .no
  | .while t body, env, h => whLoop (fun e g => tru (evE C G t e g)) (evSs C G W body) W env h
  | .raise c, env, h => .ex ⟨c, none⟩ h
  | .tryE body c cls i hd, env, h => match evSs C G W body env h with
    | .ex e h' => if cls.contains e.c then (match e.v with
      | none => .ok (.rt (.d (evH hd e.c))) h'
      | some _ => .no) else .ex e h'
    | r => r
  | .brk, env, h => .ok (.bk env) h
  | .cont, env, h => .ok (.ct env) h
  | .pass, env, h => .ok (.nx env) h
def evSs (C : Nat → List Vl → Sh → R Vl) (G : Nat → Option PyData) (W : Nat) : List Ts → En → Sh → R Out
  | [], env, h => .ok (.nx env) h
  | s :: r, env, h => (evS C G W s env h).bind fun o h1 => match o with
    | .nx e => evSs C G W r e h1
    | o => .ok o h1
end

/-- a def: parameters, names, body -/
structure Fd where
  ps : Nat
  n : Nat
  body : List Ts
  df : List PyData

def startE (n : Nat) (xs : List Vl) : En := xs.map .v ++ List.replicate (n - xs.length) .no

/-- a call, k calls deep at most -/
def callF (Φ : Nat → Option Fd) (G : Nat → Option PyData) (W : Nat) : Nat → Nat → List Vl → Sh → R Vl
  | 0, _, _, _ => .no
  | k + 1, f, xs, h => match Φ f with
    | some F => if xs.length = F.ps then (evSs (callF Φ G W k) G W F.body (startE F.n xs) h).bind fun o h1 => match o with
        | .rt v => .ok v h1
        | .nx _ => .ok (.d .none) h1
        | _ => .no
      else if xs.length + F.df.length = F.ps then (evSs (callF Φ G W k) G W F.body (startE F.n (xs ++ F.df.map .d)) h).bind fun o h1 => match o with
        | .rt v => .ok v h1
        | .nx _ => .ok (.d .none) h1
        | _ => .no
      else .no
    | none => .no
end Mi
/-! Mi: data at abstract values; the heap of the reader beside the hand layer's. -/
namespace Mi
open PySem PySem.Spec PyProof.Rows L2
abbrev Sg := L2.St

def keyD : PyData → Option Key
  | .int i => some (.inl i)
  | .str x => some (.inr x)
  | _ => none

/-- an error that stands in the heap: its class, its dict, its arguments -/
def ErX (a C : Addr) (d t0 : Option Addr) : HO := .ext fun h => ∃ (ox : Obj) (vs : Array Value), h.get? a = some ox ∧ ox.cls = .ref C ∧ ox.dict = d ∧ ox.data = .fields vs ∧ ∀ t, t0 = some t → vs[0]? = some (.ref t)
def flV : PyData → Option V
  | .int i => some (.int i)
  | .str x => some (.str x)
  | _ => none
structure StrC (K : PySem.W.Frag) (C : Addr) : Prop where
  s : PySem.W.findIn K (.ref C) "__str__" = some (some (.builtin "BaseException.__str__"))
  b : PySem.W.subIn K (.ref C) (.type "BaseException") = some true
def RpX (K : PySem.W.Frag) (Z : Hp) : List (PyData × PyData) → V → Prop
  | [(.none, .tuple [.str x, .str m])], v => ∃ a C t0, v = .ref a ∧ PySem.W.nsIn K mainGlobals x = some (some (.ref C)) ∧ Z a = some (ErX a C none (some t0)) ∧ Z t0 = some (.tup [.str m]) ∧ StrC K C
  | [(.none, .list [.str x, .str f, y])], v => ∃ a C d w, v = .ref a ∧ PySem.W.nsIn K mainGlobals x = some (some (.ref C)) ∧ Z a = some (ErX a C (some d) none) ∧ Z d = some (.xd [(f, w)]) ∧ flV y = some w
  | _, _ => False
theorem RpX.isRef {K : PySem.W.Frag} {Z : Hp} {kvs : List (PyData × PyData)} {v : V} (h : RpX K Z kvs v) : (∃ a, v = .ref a) ∧ kvs ≠ [] := by
  unfold RpX at h
  split at h
  · obtain ⟨a, _, _, e, _⟩ := h; exact ⟨⟨a, e⟩, fun z => nomatch z⟩
  · obtain ⟨a, _, _, _, e, _⟩ := h; exact ⟨⟨a, e⟩, fun z => nomatch z⟩
  · exact h.elim
theorem RpX.mono {K : PySem.W.Frag} {Z Z' : Hp} (m : ∀ a o, Z a = some o → Z' a = some o) {kvs : List (PyData × PyData)} {v : V} (h : RpX K Z kvs v) : RpX K Z' kvs v := by
  unfold RpX at h ⊢
  split at h
  · obtain ⟨a, C, t0, e, h1, h2, h3, h4⟩ := h; exact ⟨a, C, t0, e, h1, m _ _ h2, m _ _ h3, h4⟩
  · obtain ⟨a, C, d, w, e, h1, h2, h3, h4⟩ := h; exact ⟨a, C, d, w, e, h1, m _ _ h2, m _ _ h3, h4⟩
  · exact h.elim
mutual
def Rp (K : PySem.W.Frag) (Z : Hp) : PyData → V → Prop
  | .none, v => v = .non
  | .bool b, v => v = .bl b
  | .int i, v => v = .int i
  | .str x, v => v = .str x
  | .list xs, v => ∃ a vs, v = .ref a ∧ Z a = some (.lst vs) ∧ RpL K Z xs vs
  | .tuple xs, v => ∃ a vs, v = .ref a ∧ SqT K Z a vs ∧ RpL K Z xs vs
  | .dict kvs, v => (∃ a l, v = .ref a ∧ Z a = some (.dK l) ∧ RpM K Z kvs l) ∨ RpX K Z kvs v
def RpL (K : PySem.W.Frag) (Z : Hp) : List PyData → List V → Prop
  | [], vs => vs = []
  | x :: xs, vs => ∃ v r, vs = v :: r ∧ Rp K Z x v ∧ RpL K Z xs r
def RpM (K : PySem.W.Frag) (Z : Hp) : List (PyData × PyData) → List (Key × V) → Prop
  | [], l => l = []
  | (k, d) :: r, l => ∃ q v t, l = (q, v) :: t ∧ keyD k = some q ∧ Rp K Z d v ∧ RpM K Z r t
end

section
variable {K : PySem.W.Frag} {Z Z' : Hp}
theorem sqL_mono (m : ∀ a o, Z a = some o → Z' a = some o) {a : Addr} {vs : List V} (h : SqL K Z a vs) : SqL K Z' a vs := by
  rcases h with (h | ⟨o, h⟩) | h
  · exact .inl (.inl (m _ _ h))
  · exact .inl (.inr ⟨o, m _ _ h⟩)
  · exact .inr h
theorem sqT_mono (m : ∀ a o, Z a = some o → Z' a = some o) {a : Addr} {vs : List V} (h : SqT K Z a vs) : SqT K Z' a vs := by
  rcases h with (h | ⟨o, h⟩) | h
  · exact .inl (.inl (m _ _ h))
  · exact .inl (.inr ⟨o, m _ _ h⟩)
  · exact .inr h
theorem rd_mono (m : ∀ a o, Z a = some o → Z' a = some o) {a : Addr} {u : HO} (h : Rd Z a u) : Rd Z' a u := by
  rcases h with h | ⟨o, h⟩
  · exact .inl (m _ _ h)
  · exact .inr ⟨o, m _ _ h⟩
mutual
theorem Rp.mono (m : ∀ a o, Z a = some o → Z' a = some o) : ∀ (d : PyData) (v : V), Rp K Z d v → Rp K Z' d v
  | .none, _, h => by simpa only [Rp] using h
  | .bool _, _, h => by simpa only [Rp] using h
  | .int _, _, h => by simpa only [Rp] using h
  | .str _, _, h => by simpa only [Rp] using h
  | .list xs, v, h => by
    simp only [Rp] at h ⊢
    obtain ⟨a, vs, e, s, r⟩ := h
    exact ⟨a, vs, e, m _ _ s, RpL.mono m xs vs r⟩
  | .tuple xs, v, h => by
    simp only [Rp] at h ⊢
    obtain ⟨a, vs, e, s, r⟩ := h
    exact ⟨a, vs, e, sqT_mono m s, RpL.mono m xs vs r⟩
  | .dict kvs, v, h => by
    simp only [Rp] at h ⊢
    rcases h with ⟨a, l, e, s, r⟩ | h
    · exact .inl ⟨a, l, e, m _ _ s, RpM.mono m kvs l r⟩
    · exact .inr (h.mono m)
theorem RpL.mono (m : ∀ a o, Z a = some o → Z' a = some o) : ∀ (ds : List PyData) (vs : List V), RpL K Z ds vs → RpL K Z' ds vs
  | [], _, h => by simpa only [RpL] using h
  | x :: xs, _, h => by
    simp only [RpL] at h ⊢
    obtain ⟨v, r, e, h1, h2⟩ := h
    exact ⟨v, r, e, Rp.mono m x v h1, RpL.mono m xs r h2⟩
theorem RpM.mono (m : ∀ a o, Z a = some o → Z' a = some o) : ∀ (ds : List (PyData × PyData)) (l : List (Key × V)), RpM K Z ds l → RpM K Z' ds l
  | [], _, h => by simpa only [RpM] using h
  | (k, d) :: xs, _, h => by
    simp only [RpM] at h ⊢
    obtain ⟨q, v, t, e, hk, h1, h2⟩ := h
    exact ⟨q, v, t, e, hk, Rp.mono m d v h1, RpM.mono m xs t h2⟩
end
theorem RpL.length : ∀ {ds : List PyData} {vs : List V}, RpL K Z ds vs → vs.length = ds.length
  | [], _, h => by
    simp only [RpL] at h
    rw [h]; rfl
  | x :: xs, _, h => by
    simp only [RpL] at h
    obtain ⟨v, r, rfl, _, h2⟩ := h
    rw [List.length_cons, List.length_cons, RpL.length h2]
theorem RpL.get : ∀ {ds : List PyData} {vs : List V} {i : Nat} {x : PyData}, RpL K Z ds vs → ds[i]? = some x → ∃ v, vs[i]? = some v ∧ Rp K Z x v
  | [], _, _, _, _, e => by simp at e
  | y :: ys, _, 0, x, h, e => by
    simp only [RpL] at h
    obtain ⟨v, r, rfl, h1, _⟩ := h
    simp at e
    subst e
    exact ⟨v, rfl, h1⟩
  | y :: ys, _, i + 1, x, h, e => by
    simp only [RpL] at h
    obtain ⟨v, r, rfl, _, h2⟩ := h
    obtain ⟨w, e1, e2⟩ := RpL.get (i := i) h2 (by simpa using e)
    exact ⟨w, by simpa using e1, e2⟩
theorem RpL.append : ∀ {ds es : List PyData} {vs ws : List V}, RpL K Z ds vs → RpL K Z es ws → RpL K Z (ds ++ es) (vs ++ ws)
  | [], _, _, _, h, g => by
    simp only [RpL] at h
    subst h
    exact g
  | x :: xs, es, _, ws, h, g => by
    simp only [RpL] at h
    obtain ⟨v, r, rfl, h1, h2⟩ := h
    show RpL K Z (x :: (xs ++ es)) (v :: (r ++ ws))
    simp only [RpL]
    exact ⟨v, _, rfl, h1, RpL.append h2 g⟩
theorem RpL.nil : RpL K Z [] [] := by simp only [RpL]
theorem RpL.cons {x : PyData} {v : V} {xs : List PyData} {vs : List V} (h : Rp K Z x v) (g : RpL K Z xs vs) : RpL K Z (x :: xs) (v :: vs) := by
  simp only [RpL]
  exact ⟨v, vs, rfl, h, g⟩
theorem RpL.take : ∀ {ds : List PyData} {vs : List V} (n : Nat), RpL K Z ds vs → RpL K Z (ds.take n) (vs.take n)
  | _, _, 0, _ => RpL.nil
  | [], _, n + 1, h => by
    simp only [RpL] at h
    subst h
    exact RpL.nil
  | x :: xs, _, n + 1, h => by
    simp only [RpL] at h
    obtain ⟨v, r, rfl, h1, h2⟩ := h
    exact RpL.cons h1 (RpL.take n h2)
theorem RpL.drop : ∀ {ds : List PyData} {vs : List V} (n : Nat), RpL K Z ds vs → RpL K Z (ds.drop n) (vs.drop n)
  | _, _, 0, h => h
  | [], _, n + 1, h => by
    simp only [RpL] at h
    subst h
    exact RpL.nil
  | x :: xs, _, n + 1, h => by
    simp only [RpL] at h
    obtain ⟨v, r, rfl, h1, h2⟩ := h
    exact RpL.drop n h2
theorem RpL.cut {ds : List PyData} {vs : List V} (h : RpL K Z ds vs) (lo hi : Option Int) : RpL K Z (Mi.cut ds lo hi) (cutV vs lo hi) := by
  unfold Mi.cut cutV
  rw [h.length]
  exact (h.drop _).take _
theorem RpL.reverse {ds : List PyData} {vs : List V} (h : RpL K Z ds vs) : RpL K Z ds.reverse vs.reverse := by
  induction ds generalizing vs with
  | nil =>
    simp only [RpL] at h
    subst h
    exact RpL.nil
  | cons x xs ih =>
    simp only [RpL] at h
    obtain ⟨v, r, rfl, h1, h2⟩ := h
    rw [List.reverse_cons, List.reverse_cons]
    exact (ih h2).append (RpL.cons h1 RpL.nil)
theorem RpL.rep {ds : List PyData} {vs : List V} (h : RpL K Z ds vs) : ∀ n : Nat, RpL K Z (repL n ds) (List.replicate n vs).flatten
  | 0 => RpL.nil
  | n + 1 => by
    unfold repL
    rw [List.replicate_succ, List.replicate_succ, List.flatten_cons, List.flatten_cons]
    exact h.append (RpL.rep h n)
theorem RpL.set {ds : List PyData} {vs : List V} (h : RpL K Z ds vs) {x : PyData} {v : V} (hx : Rp K Z x v) : ∀ k : Nat, RpL K Z (ds.set k x) (vs.set k v) := by
  induction ds generalizing vs with
  | nil =>
    intro k
    simp only [RpL] at h
    subst h
    exact RpL.nil
  | cons y ys ih =>
    intro k
    simp only [RpL] at h
    obtain ⟨w, r, rfl, h1, h2⟩ := h
    cases k with
    | zero => exact RpL.cons hx h2
    | succ k => exact RpL.cons h1 (ih h2 k)
theorem RpL.ints : ∀ {ds : List PyData} {vs : List V} {ns : List Int}, RpL K Z ds vs → intsOf ds = some ns → vs = ns.map V.int
  | [], _, ns, h, e => by
    simp only [RpL] at h
    simp only [intsOf, Option.some.injEq] at e
    subst h; subst e; rfl
  | x :: xs, _, ns, h, e => by
    simp only [RpL] at h
    obtain ⟨v, r, rfl, h1, h2⟩ := h
    cases x with
    | int i =>
      simp only [intsOf, Option.map_eq_some_iff] at e
      obtain ⟨ms, e1, rfl⟩ := e
      rw [RpL.ints h2 e1]
      simp only [Rp] at h1
      rw [h1]; rfl
    | _ => simp [intsOf] at e
theorem RpL.bools : ∀ {ds : List PyData} {vs : List V} {ns : List Bool}, RpL K Z ds vs → boolsOf ds = some ns → vs = ns.map V.bl
  | [], _, ns, h, e => by
    simp only [RpL] at h
    simp only [boolsOf, Option.some.injEq] at e
    subst h; subst e; rfl
  | x :: xs, _, ns, h, e => by
    simp only [RpL] at h
    obtain ⟨v, r, rfl, h1, h2⟩ := h
    cases x with
    | bool i =>
      simp only [boolsOf, Option.map_eq_some_iff] at e
      obtain ⟨ms, e1, rfl⟩ := e
      rw [RpL.bools h2 e1]
      simp only [Rp] at h1
      rw [h1]; rfl
    | _ => simp [boolsOf] at e
end

/-! ### the two heaps -/
structure Gh where
  Z : Hp
  ι : List Addr

def ObR (K : PySem.W.Frag) (Z H : Hp) (a : Addr) : Ob → Prop
  | .lst xs => ∃ vs, H a = some (.lst vs) ∧ RpL K Z xs vs

structure Sim (K : PySem.W.Frag) (g : Gh) (h : Sh) (H : Hp) : Prop where
  sub : ∀ a o, g.Z a = some o → H a = some o
  nd : g.ι.Nodup
  len : g.ι.length = h.length
  out : ∀ a ∈ g.ι, g.Z a = none
  obj : ∀ (n : Nat) o, h[n]? = some o → ∃ a, g.ι[n]? = some a ∧ ObR K g.Z H a o

def VlR (K : PySem.W.Frag) (g : Gh) : Vl → V → Prop
  | .d x, v => Rp K g.Z x v
  | .ref n, v => ∃ a, g.ι[n]? = some a ∧ v = .ref a
  | .fn _, _ => False
  | .scr xs, v => ∃ a, v = .ref a ∧ SqL K g.Z a (xs.map V.int)

/-- .. or a list that the frame alone holds -/
def PkR (K : PySem.W.Frag) (g : Gh) (H : Hp) (x : Vl) (v : V) : Prop :=
  VlR K g x v ∨ ∃ xs a vs, x = .d (.list xs) ∧ v = .ref a ∧ H a = some (.lst vs) ∧ a ∉ g.ι ∧ RpL K g.Z xs vs

/-- from one state to a later one -/
structure Pres (g : Gh) (H : Hp) (g' : Gh) (H' : Hp) : Prop where
  z : ∀ a o, g.Z a = some o → g'.Z a = some o
  i : ∃ t, g'.ι = g.ι ++ t
  k : ∀ a o, H a = some o → a ∉ g.ι → H' a = some o ∧ a ∉ g'.ι ∧ (g.Z a = none → g'.Z a = none)

section
variable {K : PySem.W.Frag} {g g' g'' : Gh} {H H' H'' : Hp} {h h' : Sh}
theorem Pres.refl : Pres g H g H := ⟨fun _ _ e => e, ⟨[], (List.append_nil _).symm⟩, fun _ _ e n => ⟨e, n, id⟩⟩
theorem Pres.trans (p : Pres g H g' H') (q : Pres g' H' g'' H'') : Pres g H g'' H'' := by
  refine ⟨fun a o e => q.z a o (p.z a o e), ?_, fun a o e n => ?_⟩
  · obtain ⟨t, e⟩ := p.i
    obtain ⟨u, f⟩ := q.i
    exact ⟨t ++ u, by rw [f, e, List.append_assoc]⟩
  · obtain ⟨e1, n1, z1⟩ := p.k a o e n
    obtain ⟨e2, n2, z2⟩ := q.k a o e1 n1
    exact ⟨e2, n2, fun z => z2 (z1 z)⟩
theorem Pres.ix (p : Pres g H g' H') {n : Nat} {a : Addr} (e : g.ι[n]? = some a) : g'.ι[n]? = some a := by
  obtain ⟨t, f⟩ := p.i
  rw [f, List.getElem?_append_left (List.getElem?_eq_some_iff.mp e).1]
  exact e
theorem VlR.mono (p : Pres g H g' H') {x : Vl} {v : V} (r : VlR K g x v) : VlR K g' x v := by
  cases x with
  | d x => exact Rp.mono p.z x v r
  | ref n =>
    obtain ⟨a, e, rfl⟩ := r
    exact ⟨a, p.ix e, rfl⟩
  | fn n => exact r
  | scr xs =>
    obtain ⟨a, e, q⟩ := r
    exact ⟨a, e, sqL_mono p.z q⟩
theorem PkR.mono (p : Pres g H g' H') {x : Vl} {v : V} (r : PkR K g H x v) : PkR K g' H' x v := by
  rcases r with r | ⟨xs, a, vs, e, e2, hH, n, r⟩
  · exact .inl (r.mono p)
  · obtain ⟨k1, k2, _⟩ := p.k a _ hH n
    exact .inr ⟨xs, a, vs, e, e2, k1, k2, RpL.mono p.z xs vs r⟩
theorem Sim.tracked (s : Sim K g h H) {a : Addr} (m : a ∈ g.ι) : ∃ u, H a = some u := by
  obtain ⟨n, e⟩ := List.getElem?_of_mem m
  have hn : n < h.length := by
    rw [← s.len]
    exact (List.getElem?_eq_some_iff.mp e).1
  obtain ⟨b, e2, r⟩ := s.obj n _ (List.getElem?_eq_getElem hn)
  rw [e] at e2
  cases e2
  revert r
  cases h[n] with
  | lst xs =>
    rintro ⟨vs, q, _⟩
    exact ⟨_, q⟩
/-- a new thing that never changes -/
theorem Sim.frozen (s : Sim K g h H) {p : Addr} (np : H p = none) (o : HO) : Sim K ⟨upd g.Z p o, g.ι⟩ h (upd H p o) ∧ Pres g H ⟨upd g.Z p o, g.ι⟩ (upd H p o) := by
  have zp : g.Z p = none := by
    cases e : g.Z p with
    | none => rfl
    | some u =>
      have := s.sub _ _ e
      rw [np] at this; cases this
  have nι : p ∉ g.ι := fun m => by
    obtain ⟨vs, e⟩ := s.tracked m
    rw [np] at e; cases e
  have zm : ∀ a u, g.Z a = some u → upd g.Z p o a = some u := fun a u e => by
    rw [upd_ne (fun z => by rw [z, zp] at e; cases e)]
    exact e
  refine ⟨⟨fun a u e => ?_, s.nd, s.len, fun a m => ?_, fun n u e => ?_⟩, zm, ⟨[], (List.append_nil _).symm⟩, fun a u e n => ?_⟩
  · have e' : upd g.Z p o a = some u := e
    by_cases ha : a = p
    · subst ha
      rw [upd_same] at e' ⊢
      exact e'
    · rw [upd_ne ha] at e' ⊢
      exact s.sub _ _ e'
  · show upd g.Z p o a = none
    have ha : a ≠ p := fun z => nι (z ▸ m)
    rw [upd_ne ha]
    exact s.out a m
  · obtain ⟨a, e1, r⟩ := s.obj n u e
    refine ⟨a, e1, ?_⟩
    cases u with
    | lst xs =>
      obtain ⟨vs, q, r⟩ := r
      exact ⟨vs, by rw [upd_ne (fun z => by rw [z, np] at q; cases q)]; exact q, RpL.mono zm xs vs r⟩
  · have ha : a ≠ p := fun z => by rw [z, np] at e; cases e
    refine ⟨by rw [upd_ne ha]; exact e, n, fun z => ?_⟩
    show upd g.Z p o a = none
    rw [upd_ne ha]
    exact z
/-- a new list of the heap -/
theorem Sim.pushed (s : Sim K g h H) {p : Addr} (np : H p = none) {xs : List PyData} {vs : List V} (r : RpL K g.Z xs vs) :
    Sim K ⟨g.Z, g.ι ++ [p]⟩ (h ++ [.lst xs]) (upd H p (.lst vs)) ∧ Pres g H ⟨g.Z, g.ι ++ [p]⟩ (upd H p (.lst vs)) := by
  have nι : p ∉ g.ι := fun m => by
    obtain ⟨vs, e⟩ := s.tracked m
    rw [np] at e; cases e
  have zp : g.Z p = none := by
    cases e : g.Z p with
    | none => rfl
    | some u =>
      have := s.sub _ _ e
      rw [np] at this; cases this
  refine ⟨⟨fun a u e => ?_, ?_, ?_, fun a m => ?_, fun n u e => ?_⟩, fun _ _ e => e, ⟨[p], rfl⟩, fun a u e n => ?_⟩
  · rw [upd_ne (fun z => by rw [z] at e; rw [zp] at e; cases e)]
    exact s.sub _ _ e
  · rw [List.nodup_append]
    refine ⟨s.nd, by simp, fun a m b mb => ?_⟩
    have : b = p := by simpa using mb
    subst this
    exact fun z => nι (z ▸ m)
  · rw [List.length_append, List.length_append, s.len]
    rfl
  · rcases List.mem_append.mp m with m | m
    · exact s.out a m
    · have : a = p := by simpa using m
      subst this
      exact zp
  · by_cases hn : n < h.length
    · rw [List.getElem?_append_left hn] at e
      obtain ⟨a, e1, r'⟩ := s.obj n u e
      refine ⟨a, ?_, ?_⟩
      · show (g.ι ++ [p])[n]? = some a
        rw [List.getElem?_append_left (by rw [s.len]; exact hn)]
        exact e1
      · cases u with
        | lst ys =>
          obtain ⟨ws, q, r'⟩ := r'
          exact ⟨ws, by rw [upd_ne (fun z => by rw [z, np] at q; cases q)]; exact q, r'⟩
    · rw [List.getElem?_append_right (Nat.le_of_not_lt hn)] at e
      have h0 : n - h.length = 0 := by
        by_cases z : n - h.length = 0
        · exact z
        · rw [List.getElem?_eq_none (by simp; omega)] at e
          cases e
      rw [h0] at e
      simp at e
      subst e
      have hn2 : n = h.length := by omega
      refine ⟨p, ?_, vs, upd_same, r⟩
      show (g.ι ++ [p])[n]? = some p
      rw [hn2, ← s.len, List.getElem?_append_right (Nat.le_refl _), Nat.sub_self]
      rfl
  · have ha : a ≠ p := fun z => by rw [z, np] at e; cases e
    refine ⟨by rw [upd_ne ha]; exact e, fun m => ?_, id⟩
    rcases List.mem_append.mp m with m | m
    · exact n m
    · exact ha (by simpa using m)
/-- a list of the heap, changed -/
theorem Sim.write (s : Sim K g h H) {n : Nat} {a : Addr} (e : g.ι[n]? = some a) {xs : List PyData} {vs : List V} (r : RpL K g.Z xs vs) :
    Sim K g (h.set n (.lst xs)) (upd H a (.lst vs)) ∧ Pres g H g (upd H a (.lst vs)) := by
  have m : a ∈ g.ι := List.mem_of_getElem? e
  have hn : n < h.length := by
    rw [← s.len]
    exact (List.getElem?_eq_some_iff.mp e).1
  refine ⟨⟨fun b u q => ?_, s.nd, by rw [List.length_set]; exact s.len, s.out, fun k u q => ?_⟩, fun _ _ z => z, ⟨[], (List.append_nil _).symm⟩, fun b u q nb => ⟨?_, nb, id⟩⟩
  · rw [upd_ne (fun z => by rw [z, s.out a m] at q; cases q)]
    exact s.sub _ _ q
  · by_cases hk : k = n
    · subst hk
      rw [List.getElem?_set_self hn] at q
      cases q
      exact ⟨a, e, vs, upd_same, r⟩
    · rw [List.getElem?_set_ne (Ne.symm hk)] at q
      obtain ⟨b, e1, r'⟩ := s.obj k u q
      refine ⟨b, e1, ?_⟩
      have hb : b ≠ a := fun z => by
        subst z
        obtain ⟨i1, f1⟩ := List.getElem?_eq_some_iff.mp e
        obtain ⟨i2, f2⟩ := List.getElem?_eq_some_iff.mp e1
        exact hk ((List.getElem_inj s.nd).mp (f2.trans f1.symm))
      cases u with
      | lst ys =>
        obtain ⟨ws, q2, r2⟩ := r'
        exact ⟨ws, by rw [upd_ne hb]; exact q2, r2⟩
  · have hb : b ≠ a := fun z => nb (z ▸ m)
    rw [upd_ne hb]
    exact q
end

/-! ### names -/
def SlR (K : PySem.W.Frag) (g : Gh) (H : Hp) : Sl → Option V → Prop
  | .no, _ => True
  | .v x, o => ∃ v, o = some v ∧ VlR K g x v
  | .own xs, o => ∃ a vs, o = some (.ref a) ∧ H a = some (.lst vs) ∧ g.Z a = none ∧ a ∉ g.ι ∧ RpL K g.Z xs vs

structure EnR (K : PySem.W.Frag) (g : Gh) (H : Hp) (env : En) (σ : Sg) : Prop where
  len : env.length = σ.length
  at_ : ∀ (i : Nat) s, env[i]? = some s → ∃ o, σ[i]? = some o ∧ SlR K g H s o
  dist : ∀ (i j : Nat) xs ys a, env[i]? = some (.own xs) → env[j]? = some (.own ys) → σ[i]? = some (some (.ref a)) → σ[j]? = some (some (.ref a)) → i = j

section
variable {K : PySem.W.Frag} {g g' : Gh} {H H' : Hp} {h h' : Sh} {env : En} {σ : Sg}
theorem SlR.mono (p : Pres g H g' H') {s : Sl} {o : Option V} (r : SlR K g H s o) : SlR K g' H' s o := by
  cases s with
  | no => trivial
  | v x =>
    obtain ⟨v, e, r⟩ := r
    exact ⟨v, e, r.mono p⟩
  | own xs =>
    obtain ⟨a, vs, e, hH, z, n, r⟩ := r
    obtain ⟨k1, k2, k3⟩ := p.k a _ hH n
    exact ⟨a, vs, e, k1, k3 z, k2, RpL.mono p.z xs vs r⟩
theorem EnR.mono (p : Pres g H g' H') (r : EnR K g H env σ) : EnR K g' H' env σ :=
  ⟨r.len, fun i s e => let ⟨o, e2, q⟩ := r.at_ i s e; ⟨o, e2, q.mono p⟩, r.dist⟩
/-- a name set to a value -/
theorem EnR.set (r : EnR K g H env σ) {i : Nat} {x : Vl} {v : V} (hx : VlR K g x v) : EnR K g H (env.set i (.v x)) (σ.set i (some v)) := by
  refine ⟨by rw [List.length_set, List.length_set]; exact r.len, fun j s e => ?_, fun j k xs ys a e1 e2 e3 e4 => ?_⟩
  · by_cases hj : j = i
    · subst hj
      have hl : j < env.length := by
        have := (List.getElem?_eq_some_iff.mp e).1
        rw [List.length_set] at this
        exact this
      rw [List.getElem?_set_self hl] at e
      cases e
      refine ⟨some v, ?_, v, rfl, hx⟩
      rw [List.getElem?_set_self (by rw [← r.len]; exact hl)]
    · rw [List.getElem?_set_ne (Ne.symm hj)] at e
      obtain ⟨o, q1, q2⟩ := r.at_ j s e
      exact ⟨o, by rw [List.getElem?_set_ne (Ne.symm hj)]; exact q1, q2⟩
  · have hj : j ≠ i := fun z => by
      subst z
      have hl : j < env.length := by
        have := (List.getElem?_eq_some_iff.mp e1).1
        rw [List.length_set] at this
        exact this
      rw [List.getElem?_set_self hl] at e1
      cases e1
    have hk : k ≠ i := fun z => by
      subst z
      have hl : k < env.length := by
        have := (List.getElem?_eq_some_iff.mp e2).1
        rw [List.length_set] at this
        exact this
      rw [List.getElem?_set_self hl] at e2
      cases e2
    rw [List.getElem?_set_ne (Ne.symm hj)] at e1 e3
    rw [List.getElem?_set_ne (Ne.symm hk)] at e2 e4
    exact r.dist j k xs ys a e1 e2 e3 e4
end
end Mi
/-! Mi: what it means that the reader's result is the program's. -/
namespace Mi
open PySem PySem.Spec PyProof.Rows L2

/-- the program beside the tables -/
structure Pg where
  P : Program
  w : World
  K : PySem.W.Frag
  mg : Str → Option Value
  base : Heap
  cl : Nat → Option Addr
  fld : Nat → Option Str

def ErR (pg : Pg) (e : Er) (cls : Value) (dx : Option Addr) (H : Hp) (g : Gh) : Prop :=
  ∃ C, pg.cl e.c = some C ∧ cls = .ref C ∧ (match e.v with
    | none => dx = none
    | some d => ∃ a f v, dx = some a ∧ pg.fld e.c = some f ∧ H a = some (.xd [(f, v)]) ∧ Rp pg.K g.Z d v)

def SR {α β : Type} (pg : Pg) (X : Cx) (σ : Sg) (g : Gh) (H : Hp) (Rl : Gh → Hp → α → β → Prop) (r : R α) (w : (β → Hp → Prop) → Prop) : Prop :=
  match r with
  | .ok x h' => ∀ Q : β → Hp → Prop, (∀ v H' g', Sim pg.K g' h' H' → Pres g H g' H' → Rl g' H' x v → Q v H') → w Q
  | .ex e h' => ∀ W : WX, Takes X W → (∀ cls dx H' g', Sim pg.K g' h' H' → Pres g H g' H' → ErR pg e cls dx H' g' → W cls dx σ H') → ∀ Q, w Q
  | .no => True

section
variable {pg : Pg} {X : Cx} {σ : Sg} {g : Gh} {H : Hp} {α β γ δ : Type}
theorem SR.bind {Rl : Gh → Hp → α → β → Prop} {R2 : Gh → Hp → γ → δ → Prop} {r : R α} {f : α → Sh → R γ} {w : (β → Hp → Prop) → Prop} {w2 : β → Hp → (δ → Hp → Prop) → Prop} {w3 : (δ → Hp → Prop) → Prop}
    (h1 : SR pg X σ g H Rl r w) (comb : ∀ Q, w (fun b H' => w2 b H' Q) → w3 Q)
    (h2 : ∀ a h' b H' g', r = .ok a h' → Sim pg.K g' h' H' → Pres g H g' H' → Rl g' H' a b → SR pg X σ g' H' R2 (f a h') (w2 b H')) : SR pg X σ g H R2 (r.bind f) w3 := by
  cases r with
  | no => exact trivial
  | ex e h' => exact fun W tk hW Q => comb Q (h1 W tk hW _)
  | ok a h' =>
    show SR pg X σ g H R2 (f a h') w3
    have h2' := h2 a h'
    cases hf : f a h' with
    | no => exact trivial
    | ok y h2 =>
      refine fun Q hQ => comb Q (h1 _ fun b H' g' s p r => ?_)
      have := h2' b H' g' rfl s p r
      rw [hf] at this
      exact this Q fun v H2 g2 s2 p2 r2 => hQ v H2 g2 s2 (p.trans p2) r2
    | ex e h2 =>
      refine fun W tk hW Q => comb Q (h1 _ fun b H' g' s p r => ?_)
      have := h2' b H' g' rfl s p r
      rw [hf] at this
      exact this W tk (fun cls dx H2 g2 s2 p2 r2 => hW cls dx H2 g2 s2 (p.trans p2) r2) Q
theorem SR.imp {Rl : Gh → Hp → α → β → Prop} {r : R α} {w w' : (β → Hp → Prop) → Prop} (h : SR pg X σ g H Rl r w) (c : ∀ Q, w Q → w' Q) : SR pg X σ g H Rl r w' := by
  cases r with
  | no => exact trivial
  | ex e h' => exact fun W tk hW Q => c Q (h W tk hW Q)
  | ok a h' => exact fun Q hQ => c Q (h Q hQ)
theorem SR.weak {Rl R2 : Gh → Hp → α → β → Prop} {r : R α} {w : (β → Hp → Prop) → Prop} (h : SR pg X σ g H Rl r w) (c : ∀ g' H' a b, Rl g' H' a b → R2 g' H' a b) : SR pg X σ g H R2 r w := by
  cases r with
  | no => exact trivial
  | ex e h' => exact h
  | ok a h' => exact fun Q hQ => h Q fun v H' g' s p q => hQ v H' g' s p (c _ _ _ _ q)
/-- .. carried back to an earlier state -/
theorem SR.back {Rl : Gh → Hp → α → β → Prop} {r : R α} {w : (β → Hp → Prop) → Prop} {g0 : Gh} {H0 : Hp} (p : Pres g0 H0 g H) (h : SR pg X σ g H Rl r w) : SR pg X σ g0 H0 Rl r w := by
  cases r with
  | no => exact trivial
  | ex e h' => exact fun W tk hW Q => h W tk (fun cls dx H' g' s q => hW cls dx H' g' s (p.trans q)) Q
  | ok a h' => exact fun Q hQ => h Q fun v H' g' s q => hQ v H' g' s (p.trans q)
/-- a value at once -/
theorem SR.pure {Rl : Gh → Hp → α → β → Prop} {x : α} {h : Sh} {w : (β → Hp → Prop) → Prop} {b : β} (s : Sim pg.K g h H) (r : Rl g H x b) (c : ∀ Q : β → Hp → Prop, Q b H → w Q) : SR pg X σ g H Rl (.ok x h) w :=
  fun Q hQ => c Q (hQ b H g s Pres.refl r)
end

/-! ### the semantic readings -/
def wE (X : Cx) (e : Expr) (σ : Sg) (H : Hp) (Q : VK) : Prop := ∀ (pins : List (Addr × Obj)) (s : Shared), Inv X pins σ H s → wpAny (model X.prog X.w) X.A (eval e X.env) (EP X pins σ Q) X.xe s
def wT (X : Cx) (e : Expr) (σ : Sg) (H : Hp) (Q : Bool → Hp → Prop) : Prop := ∀ (pins : List (Addr × Obj)) (s : Shared), Inv X pins σ H s → wpAny (model X.prog X.w) X.A (isTrue e X.env (eval e X.env)) (TP X pins σ Q) X.xe s
def wA (X : Cx) (es : List Expr) (σ : Sg) (H : Hp) (Q : List V → Hp → Prop) : Prop := ∀ (pos : Pos) (pins : List (Addr × Obj)) (s : Shared), Inv X pins σ H s → wpAny (model X.prog X.w) X.A (spliced (backTo pos (starEach es X.env))) (AP X pins σ Q) X.xe s
def wS (X : Cx) (st : Stmt) (D : Ends) (σ : Sg) (H : Hp) : Prop := ∀ (pins : List (Addr × Obj)) (s : Shared), Inv X pins σ H s → wpAny (model X.prog X.w) X.A (exec st X.env) (SP X pins D) X.xe s
def wSs (X : Cx) (st : List Stmt) (D : Ends) (σ : Sg) (H : Hp) : Prop := ∀ (pins : List (Addr × Obj)) (s : Shared), Inv X pins σ H s → wpAny (model X.prog X.w) X.A (execs st X.env) (SP X pins D) X.xe s
def wO (X : Cx) (f : Value → Value → Sem Value) (σ : Sg) (x y : V) (H : Hp) (Q : VK) : Prop :=
  ∀ (pins : List (Addr × Obj)) (s : Shared) (v u : Value), Inv X pins σ H s → RelV x v → RelV y u → wpAny (model X.prog X.w) X.A (f v u) (EP X pins σ Q) X.xe s
def wC (X : Cx) (f : Value) (σ : Sg) (vs : List V) (H : Hp) (Q : VK) : Prop :=
  ∀ (pins : List (Addr × Obj)) (s : Shared) (us : List Value), Inv X pins σ H s → Vals vs us → wpAny (model X.prog X.w) X.A (call f us) (EP X pins σ Q) X.xe s

section
variable {X : Cx} {e a b : Expr} {es : List Expr} {σ : Sg} {H : Hp}
theorem pe_w : PE X e (wE X e) := ⟨fun pins s σ H Q I h => h pins s I⟩
theorem pt_w : PT X e (wT X e) := ⟨fun pins s σ H Q I h => h pins s I⟩
theorem pa_w : PA X es (wA X es) := ⟨fun pos pins s σ H Q I h => h pos pins s I⟩
theorem ps_w {st : Stmt} : PS X st (wS X st) := ⟨fun pins s σ H D I h => h pins s I⟩
theorem pss_w {st : List Stmt} : PSs X st (wSs X st) := ⟨fun pins s σ H D I h => h pins s I⟩
theorem wE_of {t : TE} (p : PE X e t) {Q : VK} (h : t σ H Q) : wE X e σ H Q := fun pins s I => p.run pins s σ H Q I h
theorem wT_of {t : TT} (p : PT X e t) {Q : Bool → Hp → Prop} (h : t σ H Q) : wT X e σ H Q := fun pins s I => p.run pins s σ H Q I h
theorem wA_of {t : TA} (p : PA X es t) {Q : List V → Hp → Prop} (h : t σ H Q) : wA X es σ H Q := fun pos pins s I => p.run pos pins s σ H Q I h
theorem wS_of {st : Stmt} {t : TS} (p : PS X st t) {D : Ends} (h : t D σ H) : wS X st D σ H := fun pins s I => p.run pins s σ H D I h
theorem wSs_of {st : List Stmt} {t : TS} (p : PSs X st t) {D : Ends} (h : t D σ H) : wSs X st D σ H := fun pins s I => p.run pins s σ H D I h
theorem wO_of {f : Value → Value → Sem Value} {r : L2.R2} (p : OpR X f r) {x y : V} {Q : VK} (h : r x y H Q) : wO X f σ x y H Q := fun pins s v u I rx ry => p pins s σ H x y v u Q I rx ry h
theorem opR_w {f : Value → Value → Sem Value} : OpR X f (fun x y H Q => ∀ σ, wO X f σ x y H Q) := fun pins s σ H x y v u Q I rx ry h => h σ pins s v u I rx ry
theorem wC_of {f : Value} {r : List V → Hp → VK → Prop} (p : CallR X f r) {vs : List V} {Q : VK} (h : r vs H Q) : wC X f σ vs H Q := fun pins s us I rv => p pins s σ H vs us Q I rv h
theorem wE_mono {Q Q' : VK} (h : wE X e σ H Q) (c : ∀ v H, Q v H → Q' v H) : wE X e σ H Q' := fun pins s I =>
  thn (h pins s I) fun u s1 ⟨x, H1, I1, r1, q1⟩ => ⟨x, H1, I1, r1, c _ _ q1⟩
theorem wT_mono {Q Q' : Bool → Hp → Prop} (h : wT X e σ H Q) (c : ∀ v H, Q v H → Q' v H) : wT X e σ H Q' := fun pins s I =>
  thn (h pins s I) fun u s1 ⟨H1, I1, q1⟩ => ⟨H1, I1, c _ _ q1⟩
end

/-! ### operators on data -/
section
variable {pg : Pg} {X : Cx} {g : Gh} {H : Hp} {h : Sh} {σ : Sg}
def VlRel (K : PySem.W.Frag) : Gh → Hp → Vl → V → Prop := fun g _ x v => VlR K g x v
def PkRel (K : PySem.W.Frag) : Gh → Hp → Vl → V → Prop := fun g H x v => PkR K g H x v

/-- data that may be the frame's own list -/
def PkD (K : PySem.W.Frag) (g : Gh) (H : Hp) (x : PyData) (v : V) : Prop := PkR K g H (.d x) v
theorem PkD.int {K : PySem.W.Frag} {i : Int} {v : V} (r : PkD K g H (.int i) v) : v = .int i := by
  rcases r with r | ⟨xs, a, vs, e, _⟩
  · simpa only [VlR, Rp] using r
  · cases e
theorem PkD.bool {K : PySem.W.Frag} {i : Bool} {v : V} (r : PkD K g H (.bool i) v) : v = .bl i := by
  rcases r with r | ⟨xs, a, vs, e, _⟩
  · simpa only [VlR, Rp] using r
  · cases e
theorem PkD.none {K : PySem.W.Frag} {v : V} (r : PkD K g H .none v) : v = .non := by
  rcases r with r | ⟨xs, a, vs, e, _⟩
  · simpa only [VlR, Rp] using r
  · cases e
theorem PkD.str {K : PySem.W.Frag} {i : Str} {v : V} (r : PkD K g H (.str i) v) : v = .str i := by
  rcases r with r | ⟨xs, a, vs, e, _⟩
  · simpa only [VlR, Rp] using r
  · cases e
theorem PkD.tuple {K : PySem.W.Frag} {xs : List PyData} {v : V} (s : Sim K g h H) (r : PkD K g H (.tuple xs) v) : ∃ a vs, v = .ref a ∧ SqT K H a vs ∧ RpL K g.Z xs vs := by
  rcases r with r | ⟨xs, a, vs, e, _⟩
  · simp only [VlR, Rp] at r
    obtain ⟨a, vs, e, q, r⟩ := r
    exact ⟨a, vs, e, sqT_mono s.sub q, r⟩
  · cases e
theorem PkD.list {K : PySem.W.Frag} {xs : List PyData} {v : V} (s : Sim K g h H) (r : PkD K g H (.list xs) v) : ∃ a vs, v = .ref a ∧ H a = some (.lst vs) ∧ RpL K g.Z xs vs := by
  rcases r with r | ⟨ys, a, vs, e, e2, hH, _, r⟩
  · simp only [VlR, Rp] at r
    obtain ⟨a, vs, e, q, r⟩ := r
    exact ⟨a, vs, e, s.sub _ _ q, r⟩
  · cases e
    exact ⟨a, vs, e2, hH, r⟩
theorem szL : SZ = sizeLine := by rw [sizeLine_eq]; rfl

theorem ok_int {Q : VK} {i : Int} (s : Sim pg.K g h H) (hQ : ∀ v H' g', Sim pg.K g' h H' → Pres g H g' H' → VlRel pg.K g' H' (.d (.int i)) v → Q v H') : Q (.int i) H := hQ _ _ _ s Pres.refl (by simp only [VlRel, VlR, Rp])
theorem ok_bl {Q : VK} {i : Bool} (s : Sim pg.K g h H) (hQ : ∀ v H' g', Sim pg.K g' h H' → Pres g H g' H' → VlRel pg.K g' H' (.d (.bool i)) v → Q v H') : Q (.bl i) H := hQ _ _ _ s Pres.refl (by simp only [VlRel, VlR, Rp])
theorem ok_str {Q : VK} {i : Str} (s : Sim pg.K g h H) (hQ : ∀ v H' g', Sim pg.K g' h H' → Pres g H g' H' → VlRel pg.K g' H' (.d (.str i)) v → Q v H') : Q (.str i) H := hQ _ _ _ s Pres.refl (by simp only [VlRel, VlR, Rp])
/-- a new tuple, a new list -/
theorem ok_tup {Q : VK} {xs : List PyData} {vs : List V} (s : Sim pg.K g h H) (r : RpL pg.K g.Z xs vs) (hQ : ∀ v H' g', Sim pg.K g' h H' → Pres g H g' H' → VlRel pg.K g' H' (.d (.tuple xs)) v → Q v H') : ∀ p, H p = none → Q (.ref p) (upd H p (.tup vs)) := fun p np => by
  obtain ⟨s', p'⟩ := s.frozen np (.tup vs)
  refine hQ _ _ _ s' p' ?_
  simp only [VlRel, VlR, Rp]
  exact ⟨p, vs, rfl, .of (by show upd g.Z p _ p = _; rw [upd_same]), RpL.mono p'.z _ _ r⟩
theorem ok_lst {Q : VK} {xs : List PyData} {vs : List V} (s : Sim pg.K g h H) (r : RpL pg.K g.Z xs vs) (hQ : ∀ v H' g', Sim pg.K g' h H' → Pres g H g' H' → VlRel pg.K g' H' (.d (.list xs)) v → Q v H') : ∀ p, H p = none → Q (.ref p) (upd H p (.lst vs)) := fun p np => by
  obtain ⟨s', p'⟩ := s.frozen np (.lst vs)
  refine hQ _ _ _ s' p' ?_
  simp only [VlRel, VlR, Rp]
  exact ⟨p, vs, rfl, by show upd g.Z p _ p = _; rw [upd_same], RpL.mono p'.z _ _ r⟩
/-- what stands already -/
theorem ok_it {Q : VK} {x : PyData} {v : V} (s : Sim pg.K g h H) (r : Rp pg.K g.Z x v) (hQ : ∀ v H' g', Sim pg.K g' h H' → Pres g H g' H' → VlRel pg.K g' H' (.d x) v → Q v H') : Q v H := hQ _ _ _ s Pres.refl r

theorem log2_le_of_lt {n k : Nat} (h : n < 2 ^ k) (hk : 0 < k) : n.log2 < k := by
  by_cases h0 : n = 0
  · subst h0
    simpa using hk
  · exact (Nat.log2_lt h0).mpr h
theorem LIM_lt : LIM < 2 ^ 6650 := by unfold LIM; decide +kernel
theorem LIS_lt : LIS < 2 ^ 1900 := by unfold LIS; decide +kernel
theorem okI_log {i : Int} (h : okI i = true) : i.natAbs.log2 < 6650 := log2_le_of_lt (Nat.lt_trans (of_decide_eq_true h) LIM_lt) (by decide)
theorem okS_log {i : Int} (h : okS i = true) : i.natAbs.log2 < 1920 := Nat.lt_trans (log2_le_of_lt (Nat.lt_trans (of_decide_eq_true h) LIS_lt) (by decide)) (by decide)
end
end Mi
/-! Mi: operators on data are the program's. -/
namespace Mi
open PySem PySem.Spec PyProof.Rows L2
section
variable {pg : Pg} {X : Cx} {g : Gh} {H : Hp} {h : Sh} {σ : Sg}

theorem SR.lift {o : Option PyData} {w : (V → Hp → Prop) → Prop}
    (c : ∀ z, o = some z → ∀ Q : VK, (∀ v H' g', Sim pg.K g' h H' → Pres g H g' H' → VlRel pg.K g' H' (.d z) v → Q v H') → w Q) : SR pg X σ g H (VlRel pg.K) (lift o h) w := by
  cases o with
  | none => exact trivial
  | some z => exact c z rfl

/-! deep data -/
mutual
theorem Rp.dp {K : PySem.W.Frag} {Z H : Hp} (m : ∀ a o, Z a = some o → H a = some o) : ∀ (d : PyData) (v : V), d.canLay0 = true → Rp K Z d v → Dp K H v d
  | .none, _, _, r => by simp only [Rp] at r; subst r; exact .non
  | .bool b, _, _, r => by simp only [Rp] at r; subst r; exact .bl b
  | .int i, _, _, r => by simp only [Rp] at r; subst r; exact .int i
  | .str x, _, _, r => by simp only [Rp] at r; subst r; exact .str x
  | .list xs, _, c, r => by
    simp only [Rp] at r
    obtain ⟨a, vs, rfl, hz, r⟩ := r
    exact .lst (.of (m _ _ hz)) (RpL.dp m xs vs (by simpa only [PyData.canLay0] using c) r)
  | .tuple xs, _, c, r => by
    simp only [Rp] at r
    obtain ⟨a, vs, rfl, hz, r⟩ := r
    exact .tup (sqT_mono m hz) (RpL.dp m xs vs (by simpa only [PyData.canLay0] using c) r)
  | .dict _, _, c, _ => by simp [PyData.canLay0] at c
theorem RpL.dp {K : PySem.W.Frag} {Z H : Hp} (m : ∀ a o, Z a = some o → H a = some o) : ∀ (ds : List PyData) (vs : List V), PyData.canLayAll0 ds = true → RpL K Z ds vs → DpAll K H vs ds
  | [], _, _, r => by simp only [RpL] at r; subst r; exact .nil
  | x :: xs, _, c, r => by
    simp only [RpL] at r
    obtain ⟨v, t, rfl, h1, h2⟩ := r
    simp only [PyData.canLayAll0, Bool.and_eq_true] at c
    exact .cons (Rp.dp m x v c.1 h1) (RpL.dp m xs t c.2 h2)
end
theorem PkD.dp {x : PyData} {v : V} (s : Sim pg.K g h H) (c : x.canLay0 = true) (r : PkD pg.K g H x v) : Dp pg.K H v x := by
  rcases r with r | ⟨xs, a, vs, e, rfl, hH, _, r⟩
  · exact Rp.dp s.sub x v c r
  · cases e
    exact .lst (.of hH) (RpL.dp s.sub xs vs (by simpa only [PyData.canLay0] using c) r)

/-- flat data, by its abstract value -/
theorem PkD.flat {x : PyData} {v : V} (f : flatD x = true) (r : PkD pg.K g H x v) : (x = .none ∧ v = .non) ∨ (∃ b, x = .bool b ∧ v = .bl b) ∨ (∃ i, x = .int i ∧ v = .int i) ∨ ∃ t, x = .str t ∧ v = .str t := by
  cases x with
  | none => exact .inl ⟨rfl, r.none⟩
  | bool b => exact .inr (.inl ⟨b, rfl, r.bool⟩)
  | int i => exact .inr (.inr (.inl ⟨i, rfl, r.int⟩))
  | str t => exact .inr (.inr (.inr ⟨t, rfl, r.str⟩))
  | list _ => cases f
  | tuple _ => cases f
  | dict _ => cases f

theorem dec_refl {α : Type} [DecidableEq α] (a b : α) [BEq α] [LawfulBEq α] : (a == b) = decide (a = b) := by
  by_cases h : a = b
  · subst h; simp
  · simp [h]

/-- == and != where both are flat, or both of a plain shape -/
theorem eq_gen {x y : PyData} {vx vy : V} (hK : X.K = pg.K) (hu : X.A.units + 64 < cLine) (s : Sim pg.K g h H) (rx : PkD pg.K g H x vx) (ry : PkD pg.K g H y vy)
    (c : (flatD x && flatD y || SeqAt.shaped x && SeqAt.shaped y) = true) :
    (∀ Q : VK, Q (.bl (PyData.eqv x y)) H → wO X (compareOp .Eq) σ vx vy H Q) ∧ (∀ Q : VK, Q (.bl (!PyData.eqv x y)) H → wO X (compareOp .NotEq) σ vx vy H Q) := by
  have deep : SeqAt.shaped x = true → SeqAt.shaped y = true → (∀ Q : VK, Q (.bl (PyData.eqv x y)) H → wO X (compareOp .Eq) σ vx vy H Q) ∧ (∀ Q : VK, Q (.bl (!PyData.eqv x y)) H → wO X (compareOp .NotEq) σ vx vy H Q) := fun cx cy => by
    have dx := PkD.dp s (SeqAt.canLay_of_shaped cx) rx
    have dy := PkD.dp s (SeqAt.canLay_of_shaped cy) ry
    exact ⟨fun Q q => wO_of (op_eqD hu) ⟨x, y, by rw [hK]; exact dx, by rw [hK]; exact dy, cx, cy, q⟩, fun Q q => wO_of (op_neD hu) ⟨x, y, by rw [hK]; exact dx, by rw [hK]; exact dy, cx, cy, q⟩⟩
  rcases Bool.or_eq_true _ _ ▸ c with c | c
  · obtain ⟨fx, fy⟩ := Bool.and_eq_true _ _ ▸ c
    have sc : scal vx vy = true → decide (vx = vy) = PyData.eqv x y → (∀ Q : VK, Q (.bl (PyData.eqv x y)) H → wO X (compareOp .Eq) σ vx vy H Q) ∧ (∀ Q : VK, Q (.bl (!PyData.eqv x y)) H → wO X (compareOp .NotEq) σ vx vy H Q) := fun q e =>
      ⟨fun Q hq => wO_of op_eq ⟨q, by rw [e]; exact hq⟩, fun Q hq => wO_of op_ne ⟨q, by rw [e]; exact hq⟩⟩
    rcases rx.flat fx with ⟨rfl, rfl⟩ | ⟨b, rfl, rfl⟩ | ⟨i, rfl, rfl⟩ | ⟨t, rfl, rfl⟩ <;> rcases ry.flat fy with ⟨rfl, rfl⟩ | ⟨b', rfl, rfl⟩ | ⟨j, rfl, rfl⟩ | ⟨u, rfl, rfl⟩
    all_goals first
      | exact deep rfl rfl
      | exact sc rfl dec_str
      | (refine sc rfl ?_; simp only [PyData.eqv]; simp)
  · obtain ⟨cx, cy⟩ := Bool.and_eq_true _ _ ▸ c
    exact deep cx cy

theorem isEmpty_len {ds : List PyData} {vs : List V} {K : PySem.W.Frag} {Z : Hp} (r : RpL K Z ds vs) : (vs.length == 0) = ds.isEmpty := by
  rw [r.length]
  cases ds <;> rfl
/-- .. and where one is empty -/
theorem eq_ok {x y : PyData} {vx vy : V} (hK : X.K = pg.K) (hu : X.A.units + 64 < cLine) (s : Sim pg.K g h H) (rx : PkD pg.K g H x vx) (ry : PkD pg.K g H y vy) {b : Bool} (e : eqD x y = some b) :
    (∀ Q : VK, Q (.bl b) H → wO X (compareOp .Eq) σ vx vy H Q) ∧ (∀ Q : VK, Q (.bl (!b)) H → wO X (compareOp .NotEq) σ vx vy H Q) := by
  unfold eqD at e
  split at e
  · rename_i xs
    cases e
    obtain ⟨a, vs, rfl, hq, r⟩ := PkD.tuple s rx
    obtain ⟨a2, vs2, rfl, hq2, r2⟩ := PkD.tuple s ry
    simp only [RpL] at r2
    subst r2
    have go : ∀ {pins : List (Addr × Obj)} {s1 : Shared}, Inv X pins σ H s1 → ∃ its : List Value, its.length = vs.length ∧ s1.heap.IsTuple a its.toArray ∧ s1.heap.IsTuple a2 #[] := fun I => by
      obtain ⟨its, rv, ht, _⟩ := I.tuple (hK ▸ hq)
      obtain ⟨its2, rv2, ht2, _⟩ := I.tuple (hK ▸ hq2)
      cases rv2
      exact ⟨its, rv.length.symm, ht, ht2⟩
    refine ⟨fun Q q pins s1 v u I rv ru => ?_, fun Q q pins s1 v u I rv ru => ?_⟩
    · cases rv; cases ru
      obtain ⟨its, hl, h1, h2⟩ := go I
      refine SeqAt.RcAt.tuples (e := fun _ => true) h1 h2 (by omega) (fun j _ h2 => absurd h2 (Nat.not_lt_zero _)) _ _ _ _ ⟨.bl _, H, I, rfl, ?_⟩
      have : (((List.range (min its.toArray.size (#[] : Array Value).size)).all fun _ => true) && its.toArray.size == (#[] : Array Value).size) = xs.isEmpty := by
        rw [← isEmpty_len r, ← hl]
        simp
      rw [this]
      exact q
    · cases rv; cases ru
      obtain ⟨its, hl, h1, h2⟩ := go I
      refine SeqAt.RcNeAt.tuples (e := fun _ => true) h1 h2 (by omega) (fun j _ h2 => absurd h2 (Nat.not_lt_zero _)) _ _ _ _ ⟨.bl _, H, I, rfl, ?_⟩
      have : (((List.range (min its.toArray.size (#[] : Array Value).size)).all fun _ => true) && its.toArray.size == (#[] : Array Value).size) = xs.isEmpty := by
        rw [← isEmpty_len r, ← hl]
        simp
      rw [this]
      exact q
  · rename_i xs
    cases e
    obtain ⟨a, vs, rfl, hq, r⟩ := PkD.list s rx
    obtain ⟨a2, vs2, rfl, hq2, r2⟩ := PkD.list s ry
    simp only [RpL] at r2
    subst r2
    have go : ∀ {pins : List (Addr × Obj)} {s1 : Shared}, Inv X pins σ H s1 → ∃ its : List Value, its.length = vs.length ∧ s1.heap.IsList a its.toArray ∧ s1.heap.IsList a2 #[] := fun I => by
      obtain ⟨its, rv, ht, _⟩ := I.list (.of hq)
      obtain ⟨its2, rv2, ht2, _⟩ := I.list (.of hq2)
      cases rv2
      exact ⟨its, rv.length.symm, ht.isList, ht2.isList⟩
    have hx : ∀ {its : List Value}, its.length = vs.length → xs.isEmpty = (its.toArray.size == 0) := fun {its} hl => by
      rw [← isEmpty_len r, ← hl]
      simp
    refine ⟨fun Q q pins s1 v u I rv ru => ?_, fun Q q pins s1 v u I rv ru => ?_⟩
    · cases rv; cases ru
      obtain ⟨its, hl, h1, h2⟩ := go I
      rw [hx hl] at q
      by_cases h0 : its.toArray.size = 0
      · refine SeqAt.RcAt.lists (e := fun _ => true) h1 h2 h0 (by omega) (fun j _ h2 => absurd h2 (Nat.not_lt_zero _)) _ _ _ _ ⟨.bl _, H, I, rfl, ?_⟩
        rw [h0] at q ⊢
        exact q
      · refine SeqAt.RcAt.lists_lengths h1 h2 (by simpa using h0) (by omega) _ _ _ _ ⟨.bl _, H, I, rfl, ?_⟩
        have : (its.toArray.size == 0) = false := beq_eq_false_iff_ne.mpr h0
        rw [this] at q
        exact q
    · cases rv; cases ru
      obtain ⟨its, hl, h1, h2⟩ := go I
      rw [hx hl] at q
      by_cases h0 : its.toArray.size = 0
      · refine SeqAt.RcNeAt.lists (e := fun _ => true) h1 h2 h0 (by omega) (fun j _ h2 => absurd h2 (Nat.not_lt_zero _)) _ _ _ _ ⟨.bl _, H, I, rfl, ?_⟩
        rw [h0] at q ⊢
        exact q
      · refine SeqAt.RcNeAt.lists_lengths h1 h2 (by simpa using h0) (by omega) _ _ _ _ ⟨.bl _, H, I, rfl, ?_⟩
        have : (its.toArray.size == 0) = false := beq_eq_false_iff_ne.mpr h0
        rw [this] at q
        exact q
  · split at e
    · rename_i c
      cases e
      exact eq_gen hK hu s rx ry c
    · cases e

/-- in, not in -/
theorem RpL.flat {K : PySem.W.Frag} {Z : Hp} : ∀ {ds : List PyData} {vs : List V}, ds.all flatD = true → RpL K Z ds vs → vs.all flatV = true
  | [], _, _, r => by simp only [RpL] at r; subst r; rfl
  | x :: xs, _, c, r => by
    simp only [RpL] at r
    obtain ⟨v, t, rfl, h1, h2⟩ := r
    rw [List.all_cons, Bool.and_eq_true] at c ⊢
    refine ⟨?_, RpL.flat c.2 h2⟩
    cases x <;> first | (simp only [Rp] at h1; subst h1; rfl) | (have := c.1; cases this)

theorem eqV_eqv {K : PySem.W.Frag} {Z : Hp} {x y : PyData} {vx vy : V} (fx : flatD x = true) (fy : flatD y = true) (rx : Rp K Z x vx) (ry : Rp K Z y vy) : eqV vy vx = PyData.eqv y x := by
  cases x <;> cases y <;> first | (cases fx; done) | (cases fy; done) | (simp only [Rp] at rx ry; subst rx ry; rfl)
theorem inV_eq {K : PySem.W.Frag} {Z : Hp} {x : PyData} {vx : V} (fx : flatD x = true) (rx : Rp K Z x vx) : ∀ {ys : List PyData} {vs : List V}, ys.all flatD = true → RpL K Z ys vs → inV vx vs = ys.any fun y => PyData.eqv y x
  | [], _, _, r => by simp only [RpL] at r; subst r; rfl
  | y :: ys, _, c, r => by
    simp only [RpL] at r
    obtain ⟨v, t, rfl, h1, h2⟩ := r
    rw [List.all_cons, Bool.and_eq_true] at c
    show (eqV v vx || inV vx t) = _
    rw [List.any_cons, eqV_eqv fx c.1 rx h1, inV_eq fx rx c.2 h2]
theorem PkD.rp {x : PyData} {v : V} (f : flatD x = true) (r : PkD pg.K g H x v) : Rp pg.K g.Z x v := by
  rcases r with r | ⟨xs, a, vs, e, _⟩
  · exact r
  · cases e; cases f
theorem flatV_of {x : PyData} {v : V} (f : flatD x = true) (r : PkD pg.K g H x v) : flatV v = true := by
  rcases r.flat f with ⟨_, rfl⟩ | ⟨_, _, rfl⟩ | ⟨_, _, rfl⟩ | ⟨_, _, rfl⟩ <;> rfl
theorem in_ok {x y : PyData} {ys : List PyData} {vx vy : V} (hK : X.K = pg.K) (hu : X.A.units + 65 < cLine) (s : Sim pg.K g h H) (rx : PkD pg.K g H x vx) (ry : PkD pg.K g H y vy) (hy : y = .list ys ∨ y = .tuple ys) {b : Bool} (e : inD x ys = some b) :
    (∀ Q : VK, Q (.bl b) H → wO X (compareOp .In) σ vx vy H Q) ∧ (∀ Q : VK, Q (.bl (!b)) H → wO X (compareOp .NotIn) σ vx vy H Q) := by
  obtain ⟨p, vs, rfl, hq, r⟩ : ∃ p vs, vy = .ref p ∧ (SqL X.K H p vs ∨ SqT X.K H p vs) ∧ RpL pg.K g.Z ys vs := by
    rcases hy with rfl | rfl
    · obtain ⟨a, vs, e1, e2, r⟩ := PkD.list s ry
      exact ⟨a, vs, e1, .inl (.of e2), r⟩
    · obtain ⟨a, vs, e1, e2, r⟩ := PkD.tuple s ry
      exact ⟨a, vs, e1, .inr (hK ▸ e2), r⟩
  unfold inD at e
  split at e
  · rename_i c
    rw [Bool.and_eq_true] at c
    cases e
    have ei := inV_eq c.1 (PkD.rp c.1 rx) c.2 r
    have f1 := flatV_of c.1 rx
    have f2 := RpL.flat c.2 r
    exact ⟨fun Q q => wO_of op_in_seq ⟨p, vs, rfl, hq, f1, f2, by rw [ei]; exact q⟩, fun Q q => wO_of op_notIn_seq ⟨p, vs, rfl, hq, f1, f2, by rw [ei]; exact q⟩⟩
  · split at e
    · rename_i c
      rw [Bool.and_eq_true] at c
      cases e
      have dx := PkD.dp s (SeqAt.canLay_of_shaped c.1) rx
      have cl : PyData.canLayAll0 ys = true := by have := SeqAt.canLay_of_shaped c.2; simpa only [PyData.canLay0] using this
      have dy := RpL.dp s.sub ys vs cl r
      have rm : X.A.units + 1 + min (PyData.depthAll ys) x.depth < cLine := by
        have h1 := SeqAt.depth_of_shaped c.1
        have h2 := Nat.min_le_right (PyData.depthAll ys) x.depth
        omega
      rcases hq with hq | hq
      · exact ⟨fun Q q => wO_of (op_inD hu) ⟨x, ys, by rw [hK]; exact dx, by rw [hK]; exact .lst (hK ▸ hq) dy, c.1, c.2, q⟩, fun Q q => wO_of (op_notInD hu) ⟨x, ys, by rw [hK]; exact dx, by rw [hK]; exact .lst (hK ▸ hq) dy, c.1, c.2, q⟩⟩
      · refine ⟨fun Q q pins s1 v u I rv ru => ?_, fun Q q pins s1 v u I rv ru => ?_⟩
        · obtain ⟨as, r1⟩ := Dp.reads I x vx v (hK ▸ dx) rv
          obtain ⟨bs, r2⟩ := Dp.reads I (.tuple ys) (.ref p) u (.tup hq (hK ▸ dy)) ru
          exact SeqAt.in_tuple_reads r2 r1 cl (SeqAt.canLay_of_shaped c.1) rm ⟨.bl _, H, I, rfl, q⟩
        · obtain ⟨as, r1⟩ := Dp.reads I x vx v (hK ▸ dx) rv
          obtain ⟨bs, r2⟩ := Dp.reads I (.tuple ys) (.ref p) u (.tup hq (hK ▸ dy)) ru
          exact SeqAt.notIn_tuple_reads r2 r1 cl (SeqAt.canLay_of_shaped c.1) rm ⟨.bl _, H, I, rfl, q⟩
    · cases e

theorem inS_some {x y : Str} {b : Bool} (e : inS x y = some b) : ∃ c, x = ⟨#[c]⟩ ∧ b = decide (c ∈ y.cps.toList) := by
  unfold inS at e
  split at e
  · rename_i c hc
    refine ⟨c, ?_, (Option.some.inj e).symm⟩
    obtain ⟨⟨l⟩⟩ := x
    have : l = [c] := hc
    rw [this]
  · cases e
/-- a comparison -/
theorem cmp_ok {op : CmpOp} {x y : PyData} {vx vy : V} (hK : X.K = pg.K) (hu : X.A.units + 65 < cLine) (s : Sim pg.K g h H) (rx : PkD pg.K g H x vx) (ry : PkD pg.K g H y vy) {b : Bool} (e : cmpD op x y = some b) {Q : VK} (q : Q (.bl b) H) :
    wO X (compareOp op) σ vx vy H Q := by
  unfold cmpD at e
  split at e
  · exact (eq_ok hK (by omega) s rx ry e).1 Q q
  · obtain ⟨c, e1, rfl⟩ := Option.map_eq_some_iff.mp e
    exact (eq_ok hK (by omega) s rx ry e1).2 Q q
  · rename_i i j; cases rx.int; cases ry.int; cases e; exact wO_of op_lt ⟨i, j, rfl, rfl, q⟩
  · rename_i i j; cases rx.int; cases ry.int; cases e; exact wO_of op_le ⟨i, j, rfl, rfl, q⟩
  · rename_i i j; cases rx.int; cases ry.int; cases e; exact wO_of op_gt ⟨i, j, rfl, rfl, q⟩
  · rename_i i j; cases rx.int; cases ry.int; cases e; exact wO_of op_ge ⟨i, j, rfl, rfl, q⟩
  · cases ry.none
    cases e
    refine wO_of op_isN ⟨rfl, ?_⟩
    have : decide (vx = .non) = isN x := by
      cases x with
      | none => cases rx.none; rfl
      | bool _ => cases rx.bool; rfl
      | int _ => cases rx.int; rfl
      | str _ => cases rx.str; rfl
      | list _ => obtain ⟨_, _, rfl, _⟩ := PkD.list s rx; rfl
      | tuple _ => obtain ⟨_, _, rfl, _⟩ := PkD.tuple s rx; rfl
      | dict _ =>
        rcases rx with rx | ⟨_, _, _, e, _⟩
        · simp only [VlR, Rp] at rx
          rcases rx with ⟨_, _, rfl, _⟩ | rx
          · rfl
          · obtain ⟨⟨a, rfl⟩, _⟩ := rx.isRef
            rfl
        · cases e
    rw [this]; exact q
  · cases ry.none
    cases e
    refine wO_of op_notN ⟨rfl, ?_⟩
    have : (!decide (vx = .non)) = !isN x := by
      cases x with
      | none => cases rx.none; rfl
      | bool _ => cases rx.bool; rfl
      | int _ => cases rx.int; rfl
      | str _ => cases rx.str; rfl
      | list _ => obtain ⟨_, _, rfl, _⟩ := PkD.list s rx; rfl
      | tuple _ => obtain ⟨_, _, rfl, _⟩ := PkD.tuple s rx; rfl
      | dict _ =>
        rcases rx with rx | ⟨_, _, _, e, _⟩
        · simp only [VlR, Rp] at rx
          rcases rx with ⟨_, _, rfl, _⟩ | rx
          · rfl
          · obtain ⟨⟨a, rfl⟩, _⟩ := rx.isRef
            rfl
        · cases e
    rw [this]; exact q
  · rename_i a b'; cases rx.bool; cases ry.bool; cases e
    exact wO_of op_is_bl ⟨a, b', rfl, rfl, by rw [← Bool.beq_eq_decide_eq]; exact q⟩
  · rename_i a b'; cases rx.bool; cases ry.bool; cases e
    exact wO_of op_isnot_bl ⟨a, b', rfl, rfl, by rw [← Bool.beq_eq_decide_eq]; exact q⟩
  · exact (in_ok hK hu s rx ry (.inr rfl) e).1 Q q
  · exact (in_ok hK hu s rx ry (.inl rfl) e).1 Q q
  · rename_i a z; cases rx.str; cases ry.str
    obtain ⟨c, rfl, rfl⟩ := inS_some e
    exact wO_of op_in_sign ⟨c, z, rfl, rfl, q⟩
  · rename_i a z; cases rx.str; cases ry.str
    obtain ⟨b', e1, rfl⟩ := Option.map_eq_some_iff.mp e
    obtain ⟨c, rfl, rfl⟩ := inS_some e1
    exact wO_of op_notIn_sign ⟨c, z, rfl, rfl, q⟩
  · obtain ⟨c, e1, rfl⟩ := Option.map_eq_some_iff.mp e
    exact (in_ok hK hu s rx ry (.inr rfl) e1).2 Q q
  · obtain ⟨c, e1, rfl⟩ := Option.map_eq_some_iff.mp e
    exact (in_ok hK hu s rx ry (.inl rfl) e1).2 Q q
  · cases e

/-! + - * and the rest -/
theorem intsBits {i : Int} (h : okI i = true) : Builtin.Int.intBits i ≤ 6651 := by
  have := okI_log h
  unfold Builtin.Int.intBits
  split <;> omega
theorem foldl_app (x : Array Nat) : ∀ (n : Nat) (acc : Array Nat), ((List.replicate n x).foldl (· ++ ·) acc).toList = acc.toList ++ (List.replicate n x.toList).flatten
  | 0, acc => by simp
  | n + 1, acc => by
    rw [List.replicate_succ, List.foldl_cons, foldl_app x n, List.replicate_succ, List.flatten_cons, Array.toList_append, List.append_assoc]
theorem repS_eq (n : Nat) (x : Str) : (⟨(List.replicate n x.cps).foldl (· ++ ·) #[]⟩ : Str) = repS n x := by
  unfold repS
  congr 1
  refine Array.toList_inj.mp ?_
  rw [foldl_app, List.toList_toArray]
  rfl
theorem str_mul_ok {x : Str} {n : Int} {pins : List (Addr × Obj)} {s1 : Shared} {t u : Tok} (I : Inv X pins σ H s1) (c : 0 ≤ n ∧ n ≤ 10000 ∧ x.length ≤ 1000) {Q : VK} (q : Q (.str (repS n.toNat x)) H) :
    wpAny (model X.prog X.w) X.A (binaryOp .Mult (.str x t) (.int n u)) (EP X pins σ Q) X.xe s1 := by
  have len : (repS n.toNat x).length = n.toNat * x.length := by
    show (((List.replicate n.toNat x.cps.toList).flatten).toArray).size = _
    rw [List.size_toArray, List.length_flatten]
    simp [Str.length]
  have big : n.toNat * x.length ≤ sizeLine := by
    rw [← szL]
    exact Nat.le_trans (Nat.mul_le_mul (show n.toNat ≤ 10000 by omega) c.2.2) (by decide)
  refine PySem.P.mul_str (by rw [decide_eq_false (by omega), decide_eq_false (by omega)]; rfl) (fun h1 _ => ?_) (fun _ _ => ?_) ?_
  · have : (x.length : Int) * n ≤ 2 ^ 63 - 1 := by
      have a : (x.length : Int) * n ≤ 1000 * 10000 := Int.mul_le_mul (by omega) c.2.1 c.1 (by decide)
      omega
    have := Int.le_ediv_of_mul_le (show 0 < n by omega) this
    omega
  · unfold Builtin.Str.tooLong
    rw [Nat.mul_comm]
    exact decide_eq_false (by omega)
  · by_cases h1 : n < 1
    · rw [if_pos h1]
      have e : n.toNat = 0 := by omega
      rw [e] at q
      exact ⟨by decide, .str _, H, I.tok _, ⟨_, rfl⟩, q⟩
    · rw [if_neg h1]
      by_cases h2 : (n == 1 || x.length == 0) = true
      · rw [if_pos h2]
        have e : repS n.toNat x = x := by
          refine TL.ext_tl ?_
          show (List.replicate n.toNat x.cps.toList).flatten = x.cps.toList
          rw [Bool.or_eq_true] at h2
          rcases h2 with h2 | h2
          · have : n = 1 := by simpa using h2
            subst this
            show [x.cps.toList].flatten = _
            simp
          · have h0 : x.cps.toList = [] := by
              have : x.cps.size = 0 := by simpa [Str.length] using h2
              exact List.length_eq_zero_iff.mp (by rw [Array.length_toList]; exact this)
            rw [h0]
            simp
        rw [e] at q
        exact ⟨.str x, H, I, ⟨_, rfl⟩, q⟩
      · rw [if_neg h2, repS_eq]
        exact ⟨by rw [len]; exact big, .str _, H, I.tok _, ⟨_, rfl⟩, q⟩
/-- a tuple once: itself -/
theorem tuple_once (l : Addr) (items : Array Value) (m : Nat) (dd : Option Addr) (sl : Array (Option Value)) (u : Tok) :
    Meets (Builtin.«tuple.__mul__» ⟨[.ref l, .int 1 u], []⟩) (fun _ R s => s.heap.get? l = some { cls := .type "tuple", dict := dd, data := .seq items m, slots := sl } ∧ R (.ok (.ret (Value.ref l))) s) :=
  .of_wp fun prog w A R s h => by
    obtain ⟨hp, g, d, tk, os⟩ := s
    obtain ⟨hl, h⟩ := h
    have f1 := AutoSeq1.idx_int
    wp_walk using wpAny_loadPart' hl
    exact ⟨_, rfl, h⟩
def rOnceT (K : PySem.W.Frag) : R2 := fun x y H Q => ∃ l xs, x = .ref l ∧ y = .int 1 ∧ SqT K H l xs ∧ xs ≠ [] ∧ Q (.ref l) H
theorem op_rep1 : OpR X (binaryOp .Mult) (rOnceT X.K) := by
  intro pins s σ H x y v u Q I rx ry h
  obtain ⟨l, xs, rfl, rfl, hT, hne, q⟩ := h
  cases rx
  obtain ⟨t, rfl⟩ := ry
  obtain ⟨its, r, ⟨⟨cls, dd, data, sl⟩, ho, hc, n, hd⟩, hs⟩ := I.tuple hT
  simp only at hc hd
  subst hc hd
  refine wpAny_binaryOp_repeat_ref (T := "tuple") (U := "int") (by decide) ⟨_, ho, rfl⟩ (fun s' => typeIs_int s' 1 t) noFill_tuple_mul F.fills_int_mul F.slot_int_rmul repeat_tuple F.slot_int_index.lookup
    (call_meets F.slot_int_rmul (typeIs_int s 1 t) F.entry_int_rmul (F.args_int_rmul_2 _ _) (int_rmul_tuple 1 t l its.toArray n dd sl)
      ⟨ho, rfl, ⟨_, ho, rfl⟩, call_meets F.slot_tuple_mul ⟨_, ho, rfl⟩ F.entry_tuple_mul (F.args_tuple_mul_2 _ _) (tuple_once l its.toArray n dd sl t) ⟨ho, ?_⟩⟩)
  exact ⟨.ref l, H, I, rfl, q⟩
theorem bin_ok {op : Operator} {x y z : PyData} {vx vy : V} (hK : X.K = pg.K) (s : Sim pg.K g h H) (rx : PkD pg.K g H x vx) (ry : PkD pg.K g H y vy) (e : binD op x y = some z) {Q : VK}
    (hQ : ∀ v H' g', Sim pg.K g' h H' → Pres g H g' H' → VlRel pg.K g' H' (.d z) v → Q v H') : wO X (binaryOp op) σ vx vy H Q := by
  unfold binD at e
  split at e
  · cases rx.int; cases ry.int; cases e
    exact wO_of op_add ⟨_, _, rfl, rfl, ok_int s hQ⟩
  · cases rx.str; cases ry.str
    split at e
    · rename_i c; cases e
      exact wO_of op_add_str ⟨_, _, rfl, rfl, szL ▸ c, ok_str s hQ⟩
    · cases e
  · split at e
    · rename_i c; cases e
      obtain ⟨a, vs, rfl, hq, r⟩ := PkD.list s rx
      obtain ⟨b, ws, rfl, hq2, r2⟩ := PkD.list s ry
      exact wO_of op_cat ⟨a, b, vs, ws, rfl, rfl, hq, hq2, by rw [r.length, r2.length]; exact szL ▸ c, ok_lst s (r.append r2) hQ⟩
    · cases e
  · split at e
    · rename_i xs ys c; cases e
      obtain ⟨a, vs, rfl, hq, r⟩ := PkD.tuple s rx
      obtain ⟨b, ws, rfl, hq2, r2⟩ := PkD.tuple s ry
      refine wO_of op_catA ⟨a, b, vs, ws, rfl, rfl, hK ▸ hq, hK ▸ hq2, by rw [r.length, r2.length]; exact szL ▸ c, fun e0 => ?_, fun _ e0 => ?_, fun _ _ => ok_tup s (r.append r2) hQ⟩
      · subst e0
        have hx : xs = [] := List.length_eq_zero_iff.mp (r.length ▸ rfl)
        subst hx
        rcases ry with ry | ⟨_, _, _, e, _⟩
        · exact ok_it s ry hQ
        · cases e
      · subst e0
        have hy : ys = [] := List.length_eq_zero_iff.mp (r2.length ▸ rfl)
        subst hy
        rw [List.append_nil] at hQ
        rcases rx with rx | ⟨_, _, _, e, _⟩
        · exact ok_it s rx hQ
        · cases e
    · cases e
  · cases rx.int; cases ry.int; cases e
    exact wO_of op_sub ⟨_, _, rfl, rfl, ok_int s hQ⟩
  · cases rx.int; cases ry.int
    split at e
    · rename_i i j c; cases e
      rw [Bool.and_eq_true] at c
      have h1 := okI_log c.1
      have h2 := okI_log c.2
      exact wO_of op_mulW ⟨_, _, rfl, rfl, by unfold CMulW; omega, ok_int s hQ⟩
    · cases e
  · split at e
    · rename_i xs n c; cases e
      obtain ⟨a, vs, rfl, hq, r⟩ := PkD.list s rx
      cases ry.int
      refine wO_of op_rep ⟨a, n, vs, rfl, rfl, hq, by omega, by omega, ?_, ok_lst s (r.rep _) hQ⟩
      rw [r.length, ← szL]
      exact Nat.le_trans (Nat.mul_le_mul c.2.2 (show n.toNat ≤ 1000 by omega)) (by decide)
    · cases e
  · split at e
    · rename_i xs n c; cases e
      obtain ⟨a, vs, rfl, hq, r⟩ := PkD.tuple s rx
      cases ry.int
      have vn : vs ≠ [] := fun e0 => by
        subst e0
        have hx : xs = [] := List.length_eq_zero_iff.mp (r.length ▸ rfl)
        subst hx
        cases c.2.2.2
      by_cases h1 : n = 1
      · subst h1
        have e1 : repL (1 : Int).toNat xs = xs := by
          show [xs].flatten = xs
          simp
        rw [e1] at hQ
        refine wO_of op_rep1 ⟨a, vs, rfl, rfl, hK ▸ hq, vn, ?_⟩
        rcases rx with rx | ⟨_, _, _, e, _⟩
        · exact ok_it s rx hQ
        · cases e
      · exact wO_of op_repT ⟨a, n, vs, rfl, rfl, hK ▸ hq, vn, by omega, c.2.1, by rw [r.length]; exact c.2.2.1, ok_tup s (r.rep _) hQ⟩
    · cases e
  · split at e
    · rename_i x n c; cases e
      cases rx.str; cases ry.int
      refine fun pins s1 v u I rv ru => ?_
      obtain ⟨t, rfl⟩ := rv
      obtain ⟨t', rfl⟩ := ru
      exact str_mul_ok I c (ok_str s hQ)
    · cases e
  · cases rx.int; cases ry.int
    split at e
    · rename_i i j c; cases e
      rw [Bool.and_eq_true] at c
      have h2 := okI_log c.2
      exact wO_of op_fdivW ⟨_, _, rfl, rfl, ⟨of_decide_eq_true c.1, by omega⟩, ok_int s hQ⟩
    · cases e
  · cases rx.int; cases ry.int
    split at e
    · rename_i i j c; cases e
      exact wO_of op_mod ⟨_, _, rfl, rfl, c, ok_int s hQ⟩
    · cases e
  · cases rx.int; cases ry.int
    split at e
    · rename_i i j c; cases e
      rw [Bool.and_eq_true] at c
      have c1 := of_decide_eq_true c.1
      have hb := intsBits c.2
      refine fun pins s1 v u I rv ru => ?_
      obtain ⟨t, rfl⟩ := rv
      obtain ⟨t', rfl⟩ := ru
      refine PyProof.Rows.pow_int c1.1 ?_ ⟨.int _, H, I.tok _, ⟨_, rfl⟩, ok_int s hQ⟩
      have h1 : (Builtin.Int.intBits i : Int) ≤ 6651 := by omega
      have h2 : (Builtin.Int.intBits i : Int) * j ≤ 6651 * 100 := Int.mul_le_mul h1 c1.2 c1.1 (by decide)
      omega
    · cases e
  · cases rx.int; cases ry.int; cases e
    exact wO_of op_and ⟨_, _, rfl, rfl, ok_int s hQ⟩
  · cases rx.int; cases ry.int; cases e
    exact wO_of op_or ⟨_, _, rfl, rfl, ok_int s hQ⟩
  · cases e
/-- op= : on numbers and texts as op -/
theorem aug_ok {op : Operator} {x y z : PyData} {vx vy : V} (hK : X.K = pg.K) (s : Sim pg.K g h H) (rx : PkD pg.K g H x vx) (ry : PkD pg.K g H y vy) (f : flatD x = true) (e : binD op x y = some z) (hop : op = .Add ∨ op = .Sub) {Q : VK}
    (hQ : ∀ v H' g', Sim pg.K g' h H' → Pres g H g' H' → VlRel pg.K g' H' (.d z) v → Q v H') : wO X (inplaceOp op) σ vx vy H Q := by
  unfold binD at e
  split at e
  · cases rx.int; cases ry.int; cases e
    exact wO_of iop_add ⟨_, _, rfl, rfl, ok_int s hQ⟩
  · cases rx.str; cases ry.str
    split at e
    · rename_i c; cases e
      exact wO_of iop_add_str ⟨_, _, rfl, rfl, szL ▸ c, ok_str s hQ⟩
    · cases e
  · cases f
  · cases f
  · cases rx.int; cases ry.int; cases e
    exact wO_of iop_sub ⟨_, _, rfl, rfl, ok_int s hQ⟩
  all_goals first | (rcases hop with h | h <;> cases h; done) | (cases e; done)

/-! truth -/
theorem tru_D {x : PyData} {v : V} (hK : X.K = pg.K) (s : Sim pg.K g h H) (r : PkD pg.K g H x v) {b : Bool} (e : truD x = some b) : TruV X.K v H b := by
  cases x with
  | none => cases r.none; cases e; rfl
  | bool _ => cases r.bool; cases e; rfl
  | int _ => cases r.int; cases e; rfl
  | str t =>
    cases r.str
    simp only [truD] at e
    split at e
    · rename_i c
      cases e
      refine ⟨szL ▸ c, ?_⟩
      by_cases h0 : t.length = 0
      · simp [h0]
      · have : ((t.length : Int) != 0) = true := by simp; omega
        rw [this]
        simp [h0]
    · cases e
  | list xs =>
    obtain ⟨a, vs, rfl, hq, rl⟩ := PkD.list s r
    cases e
    refine .inl ⟨vs, .of hq, ?_⟩
    have := rl.length
    cases xs <;> cases vs <;> simp at this ⊢
  | tuple xs =>
    obtain ⟨a, vs, rfl, hq, rl⟩ := PkD.tuple s r
    cases e
    refine .inr (.inl ⟨vs, hK ▸ hq, ?_⟩)
    have := rl.length
    cases xs <;> cases vs <;> simp at this ⊢
  | dict _ => cases e
theorem tru_V {x : Vl} {v : V} (hK : X.K = pg.K) (s : Sim pg.K g h H) (r : PkR pg.K g H x v) {b : Bool} (e : truV x = some b) : TruV X.K v H b := by
  cases x with
  | d x => exact tru_D hK s r e
  | ref _ => cases e
  | fn _ => cases e
  | scr _ => cases e
end
end Mi
/-! Mi: sorted, of pairs of ints. -/
namespace Mi
open PySem PySem.Spec PyProof.Rows L2
/-- pairs of ints, as they stand -/
def PrL (K : PySem.W.Frag) (H : Hp) : List (Int × Int) → List V → Prop
  | [], vs => vs = []
  | p :: ps, vs => ∃ t r, vs = V.ref t :: r ∧ SqT K H t [.int p.1, .int p.2] ∧ PrL K H ps r
theorem PrL.len {K : PySem.W.Frag} {H : Hp} : ∀ {ps : List (Int × Int)} {vs : List V}, PrL K H ps vs → vs.length = ps.length
  | [], vs, h => by rw [show vs = [] from h]; rfl
  | p :: ps, vs, ⟨t, r, e, _, h⟩ => by rw [e, List.length_cons, List.length_cons, PrL.len h]
theorem PrL.mem {K : PySem.W.Frag} {H : Hp} : ∀ {ps : List (Int × Int)} {vs : List V}, PrL K H ps vs → ∀ v ∈ vs, ∃ (t : Addr) (p : Int × Int), v = V.ref t ∧ SqT K H t [.int p.1, .int p.2]
  | [], vs, h, v, m => by
    rw [show vs = [] from h] at m
    cases m
  | p :: ps, vs, ⟨t, r, e, q, h⟩, v, m => by
    rw [e] at m
    rcases List.mem_cons.mp m with rfl | m
    · exact ⟨t, p, rfl, q⟩
    · exact PrL.mem h v m
theorem PrL.of {K : PySem.W.Frag} {H : Hp} {k : V → Int × Int} : ∀ {vs : List V}, (∀ v ∈ vs, ∃ t, v = V.ref t ∧ SqT K H t [.int (k v).1, .int (k v).2]) → PrL K H (vs.map k) vs
  | [], _ => rfl
  | v :: vs, h => by
    obtain ⟨t, e, q⟩ := h v List.mem_cons_self
    refine ⟨t, vs, by rw [e], ?_, PrL.of fun u m => h u (List.mem_cons_of_mem _ m)⟩
    exact q
/-- what stands in the heap at a pair -/
def prK (h : Heap) : V → Int × Int
  | .ref t => match h.get? t with
    | some o => match o.data with
      | .seq its _ => match its.toList with
        | [.int i _, .int j _] => (i, j)
        | _ => (0, 0)
      | _ => (0, 0)
    | none => (0, 0)
  | _ => (0, 0)
theorem befP_iff {p q : Int × Int} : befP p q = true ↔ p.1 < q.1 ∨ (p.1 = q.1 ∧ p.2 < q.2) := SrtO.lexB_iff
theorem befP_no {p q : Int × Int} : befP p q = false ↔ ¬ (p.1 < q.1 ∨ (p.1 = q.1 ∧ p.2 < q.2)) := SrtO.lexB_no
theorem swoP : SrtO.Swo befP := by
  refine ⟨fun x y h => ?_, fun x y z h1 h2 => ?_⟩
  · have a := befP_iff.mp h
    refine befP_no.mpr ?_
    omega
  · have a := befP_no.mp h1
    have b := befP_no.mp h2
    refine befP_no.mpr ?_
    omega
theorem insP_perm (p : Int × Int) : ∀ l : List (Int × Int), (insP p l).Perm (p :: l)
  | [] => List.Perm.refl _
  | q :: r => by
    rw [insP]
    split
    · exact ((insP_perm p r).cons q).trans (List.Perm.swap p q r)
    · exact List.Perm.refl _
theorem sortP_perm : ∀ l : List (Int × Int), (sortP l).Perm l
  | [] => List.Perm.refl _
  | p :: r => (insP_perm p (sortP r)).trans ((sortP_perm r).cons p)
theorem insP_srtd (p : Int × Int) : ∀ l : List (Int × Int), SrtO.Srtd befP l → SrtO.Srtd befP (insP p l)
  | [], _ => List.pairwise_singleton _ _
  | q :: r, h => by
    have hq := (List.pairwise_cons.mp h).1
    rw [insP]
    split
    · rename_i c
      refine List.pairwise_cons.mpr ⟨fun y m => ?_, insP_srtd p r (List.pairwise_cons.mp h).2⟩
      rcases List.mem_cons.mp ((insP_perm p r).mem_iff.mp m) with rfl | m
      · exact swoP.asym _ _ c
      · exact hq y m
    · rename_i c
      have c : befP q p = false := by cases e : befP q p with
        | true => exact absurd e c
        | false => rfl
      refine List.pairwise_cons.mpr ⟨fun y m => ?_, h⟩
      rcases List.mem_cons.mp m with rfl | m
      · exact c
      · exact swoP.tr p q y c (hq y m)
theorem sortP_srtd : ∀ l : List (Int × Int), SrtO.Srtd befP (sortP l)
  | [] => List.Pairwise.nil
  | p :: r => insP_srtd p _ (sortP_srtd r)
theorem stb_of {l m : List (Int × Int)} (h : l.Perm m) : SrtO.Stb befP l m := by
  refine ⟨h, fun x => ?_⟩
  have e : ∀ y, SrtO.eqv befP x y = true ↔ y = x := fun y => by
    rw [SrtO.eqv_iff, befP_no, befP_no]
    constructor
    · intro z
      obtain ⟨a, b⟩ := x
      obtain ⟨c, d⟩ := y
      simp only [Prod.mk.injEq] at z ⊢
      omega
    · rintro rfl
      omega
  have r : ∀ k : List (Int × Int), k.filter (SrtO.eqv befP x) = List.replicate (k.filter (SrtO.eqv befP x)).length x := fun k => by
    refine List.eq_replicate_iff.mpr ⟨rfl, fun b m => ?_⟩
    exact (e b).mp (List.mem_filter.mp m).2
  rw [r l, r m, (h.filter _).length_eq]
/-- sorted(xs), xs a list of pairs of ints -/
def rSortedQ (K : PySem.W.Frag) : List V → Hp → VK → Prop := fun vs H Q => ∃ (a : Addr) (xs : List V) (ps : List (Int × Int)) (Z : Hp), vs = [V.ref a] ∧ SqL K H a xs ∧ (∀ a o, Z a = some o → H a = some o) ∧ PrL K Z ps xs ∧
  ∀ ys p, PrL K Z (sortP ps) ys → H p = none → Q (.ref p) (upd H p (.lst ys))
theorem PrL.up {K : PySem.W.Frag} {Z H : Hp} (z : ∀ a o, Z a = some o → H a = some o) : ∀ {ps : List (Int × Int)} {vs : List V}, PrL K Z ps vs → PrL K H ps vs
  | [], vs, h => h
  | p :: ps, vs, ⟨t, r, e, q, h⟩ => ⟨t, r, e, sqT_mono z q, PrL.up z h⟩
theorem RpL.pairs {K : PySem.W.Frag} {Z : Hp} : ∀ {xs : List PyData} {vs : List V} {ps : List (Int × Int)}, RpL K Z xs vs → pairsI xs = some ps → PrL K Z ps vs
  | [], vs, ps, r, e => by
    cases e
    simp only [RpL] at r
    exact r
  | x :: xs, vs, ps, r, e => by
    unfold pairsI at e
    split at e
    · rename_i h; cases h
    · rename_i i j r' h
      cases h
      obtain ⟨qs, e1, rfl⟩ := Option.map_eq_some_iff.mp e
      simp only [RpL, Rp] at r
      obtain ⟨v, t, rfl, ⟨a, ws, rfl, q, rw'⟩, r2⟩ := r
      obtain ⟨w1, t1, rfl, rfl, w2, t2, rfl, rfl, rfl⟩ := rw'
      exact ⟨a, t, rfl, q, RpL.pairs r2 e1⟩
    · cases e
theorem RpL.of_pairs {K : PySem.W.Frag} {Z : Hp} : ∀ {ps : List (Int × Int)} {vs : List V}, PrL K Z ps vs → RpL K Z (ps.map pairD) vs
  | [], vs, h => by
    rw [show vs = [] from h]
    exact RpL.nil
  | p :: ps, vs, ⟨t, r, e, q, h⟩ => by
    rw [e, List.map_cons]
    refine RpL.cons ?_ (RpL.of_pairs h)
    simp only [pairD, Rp]
    exact ⟨t, _, rfl, q, RpL.cons (by simp only [Rp]) (RpL.cons (by simp only [Rp]) RpL.nil)⟩
section
variable {X : Cx}
theorem prK_at {pins : List (Addr × Obj)} {σ : Sg} {H : Hp} {s : Shared} {t : Addr} {p : Int × Int} (I : Inv X pins σ H s) (q : SqT X.K H t [.int p.1, .int p.2]) :
    prK s.heap (.ref t) = p ∧ ∃ (o : Obj) (t1 t2 : Tok) (n : Nat), s.heap.get? t = some o ∧ o.cls = .type "tuple" ∧ o.data = .seq #[.int p.1 t1, .int p.2 t2] n := by
  obtain ⟨its, r, pl, hz⟩ := I.tuple q
  obtain ⟨u1, u2, rfl, ri, rj⟩ := vals2 r
  obtain ⟨t1, rfl⟩ := ri
  obtain ⟨t2, rfl⟩ := rj
  obtain ⟨o, ho, hc, n, hd⟩ := pl
  refine ⟨?_, o, t1, t2, n, ho, hc, hd⟩
  unfold prK
  dsimp only
  rw [ho]
  dsimp only
  rw [hd]
theorem PrL.keys {pins : List (Addr × Obj)} {σ : Sg} {H : Hp} {s : Shared} (I : Inv X pins σ H s) : ∀ {ps : List (Int × Int)} {vs : List V}, PrL X.K H ps vs → vs.map (prK s.heap) = ps
  | [], vs, h => by rw [show vs = [] from h]; rfl
  | p :: ps, vs, ⟨t, r, e, q, h⟩ => by rw [e, List.map_cons, (prK_at I q).1, PrL.keys I h]
theorem cr_sortedQ : CallR X (.builtin "sorted") (rSortedQ X.K) := by
  intro pins s σ H vs us Q I r h
  obtain ⟨a, xs, ps, Z, rfl, hs, zs, hx, q⟩ := h
  obtain ⟨its, rv, hl, hz⟩ := I.list hs
  obtain ⟨u, rfl, ru⟩ := vals1 r
  obtain rfl : u = Value.ref a := ru
  have hk : ∀ v ∈ xs, ∃ t, v = V.ref t ∧ SqT X.K Z t [.int (prK s.heap v).1, .int (prK s.heap v).2] := fun v m => by
    obtain ⟨t, p, e, qq⟩ := hx.mem v m
    subst e
    refine ⟨t, rfl, ?_⟩
    rw [(prK_at I (sqT_mono zs qq)).1]
    exact qq
  obtain ⟨e1, e2⟩ := refs_back rv fun x m => by
    obtain ⟨t, e, _⟩ := hk x m
    exact ⟨t, e⟩
  refine SrtO.sorted_pairsO (k := fun u => prK s.heap (backV u)) hl.isList (by rw [← rv.length]; exact hz) (fun v hv => ?_) fun h' d out h1 h2 kp hd hn => ?_
  · obtain ⟨t, rfl⟩ := e2 v hv
    have hm : V.ref t ∈ xs := by rw [e1]; exact List.mem_map.mpr ⟨_, hv, rfl⟩
    obtain ⟨t', e, ht⟩ := hk _ hm
    cases e
    obtain ⟨_, o, t1, t2, n, ho, hc, hd⟩ := prK_at I (sqT_mono zs ht)
    exact ⟨t, o, t1, t2, n, rfl, ho, hc, hd⟩
  · have h3 : ∀ u ∈ out, ∃ a, u = Value.ref a := fun u hu => e2 u (h2.perm.mem_iff.mp hu)
    obtain ⟨n, hn⟩ := hn
    have hb : SrtO.Stb befP (out.map fun u => prK s.heap (backV u)) (its.map fun u => prK s.heap (backV u)) := SrtO.Stb.map swoP _ h2
    have ek : (its.map fun u => prK s.heap (backV u)) = ps := by
      have := (hx.up zs).keys I
      rw [e1, List.map_map] at this
      exact this
    rw [ek] at hb
    have eo : (out.map fun u => prK s.heap (backV u)) = sortP ps :=
      SrtO.stb_uniq swoP (SrtO.srtd_map h1) (sortP_srtd ps) (stb_of (hb.perm.trans (sortP_perm ps).symm))
    refine ⟨.ref d, upd H d (.lst (out.map backV)), I.laid (t' := s.toks) kp hd ⟨?_, out, n, vals_back h3, hn⟩, rfl, q _ d ?_ (I.hok.fresh hd)⟩
    · rw [List.length_map, h2.perm.length_eq, ← rv.length]
      exact hz
    · have e3 : (out.map fun u => prK s.heap (backV u)) = (out.map backV).map (prK s.heap) := by rw [List.map_map]; rfl
      rw [← eo, e3]
      refine PrL.of fun v m => ?_
      obtain ⟨u, mu, rfl⟩ := List.mem_map.mp m
      refine hk _ ?_
      rw [e1]
      exact List.mem_map.mpr ⟨u, h2.perm.mem_iff.mp mu, rfl⟩
end
end Mi
/-! Mi: min, of pairs of ints: the compare is told by the heap. -/
namespace Mi
open PySem PySem.Spec PyProof.Rows L2
section
variable {pr : Program} {wd : World} {Ar : Around} {Re : Result → Shared → Prop} {It Bs : Addr} {fo wt : List Addr} {cnt : Nat} {At : Nat → Value → Prop} {Sx : Nat → Heap → Prop} {Gd : Heap → Prop} {lt : Nat → Nat → Bool}
/-- the compare, where the heap is good -/
def CmpIn (pr : Program) (wd : World) (Ar : Around) (Gd : Heap → Prop) (At : Nat → Value → Prop) (lt : Nat → Nat → Bool) : Prop :=
  ∀ i j x y (t : Shared) (Q E : Value → Shared → Prop), Gd t.heap → At i x → At j y → Q (.bool (lt i j)) t → wpAny (model pr wd) Ar (richCompare .Lt x y) Q E t
theorem nm_min : (toString "min" ++ toString ".loop" : String) = "min.loop" := by decide
theorem loop_min (Wk : Walks pr wd Ar.in1 It fo wt cnt At Sx) (hg : ∀ a b : Heap, Gd a → (∀ x o, x ∉ wt → x ≠ Bs → a.get? x = some o → b.get? x = some o) → Gd b) (hc : CmpIn pr wd Ar.in1 Gd At lt) (hB : Bs ∉ fo) :
    ∀ (m j : Nat) (t : Shared) (bv : Value) (ep : Nat), cnt - (j + 1) = m → j + 1 ≤ cnt → Sx (j + 1) t.heap → Gd t.heap → At (argBest lt j) bv → t.heap.get? Bs = some { cls := .type "list", dict := none, data := .seq #[bv, bv] ep, slots := #[] } →
      (∀ v h' tk, At (argBest lt (cnt - 1)) v → (∀ x o, x ∉ wt → x ≠ Bs → t.heap.get? x = some o → h'.get? x = some o) → Re (.ok (.ret v)) { t with heap := h', toks := tk }) →
      codeAny (model pr wd) Ar (.builtin "min.loop" ⟨[.ref It, .none, .ref Bs], []⟩) Re t := by
  have nw : Bs ∉ wt := fun z => hB (Wk.sub _ z)
  intro m
  induction m with
  | zero =>
    intro j t bv ep e1 e2 st gd pb hb fin
    refine codeAny_builtin PySem.F.entry_min_loop ?_
    rw [PySem.Around.under_plainId PySem.F.plain_min_loop _]; show wpAny _ Ar.in1 (seqItems? (.ref Bs) >>= _) _ _ t
    refine wpAny_bind (PySem.wpAny_seqItems hb rfl ?_)
    show wpAny _ Ar.in1 (tryCatch (pyNext (.ref It)) _ >>= _) _ _ t
    refine wpAny_bind (wpAny_tryCatch (Wk.done t _ _ ((show j + 1 = cnt by omega) ▸ st) fun h' tk kp => ?_))
    have hb' := kp Bs _ nw hb
    show wpAny _ Ar.in1 (updateSeq Bs (fun _ => #[]) >>= _) _ _ _
    refine wpAny_bind (wpAny_updateSeq hb' rfl (wpAny_bind (wpAny_letGo (wpAny_pure ?_))))
    exact fin bv _ tk (by rw [← show j + 1 = cnt by omega]; exact pb) fun x o h1 h2 e => (Heap.get?_update_other _ _ (Ne.symm h2)).trans (kp x o h1 e)
  | succ m ih =>
    intro j t bv ep e1 e2 st gd pb hb fin
    have lt1 : j + 1 < cnt := by omega
    refine codeAny_builtin PySem.F.entry_min_loop ?_
    rw [PySem.Around.under_plainId PySem.F.plain_min_loop _]; show wpAny _ Ar.in1 (seqItems? (.ref Bs) >>= _) _ _ t
    refine wpAny_bind (PySem.wpAny_seqItems hb rfl ?_)
    show wpAny _ Ar.in1 (tryCatch (pyNext (.ref It)) _ >>= _) _ _ t
    refine wpAny_bind (wpAny_tryCatch (Wk.item (j + 1) t _ _ lt1 st fun v h' tk pv st' kp => ?_))
    have hb' := kp Bs _ nw hb
    have gd' : Gd h' := hg _ _ gd fun x o h1 _ e => kp x o h1 e
    show wpAny _ Ar.in1 (tryCatch (holding [v, v] (richCompare .Lt v bv >>= _)) _ >>= _) _ _ _
    refine wpAny_bind (wpAny_tryCatch (wpAny_holding (wpAny_bind (hc (j + 1) (argBest lt j) v bv _ _ _ gd' pv pb ?_))))
    refine wpAny_bind (wpAny_holding (wpAny_truthy_bool (wpAny_bind (wpAny_letGo (wpAny_pure ?_)))))
    cases e : lt (j + 1) (argBest lt j) with
    | true =>
      simp only [if_true]
      refine wpAny_bind (wpAny_updateSeq hb' rfl (wpAny_bind (wpAny_letGo ?_)))
      rw [nm_min]
      have up : ∀ x o, x ∉ wt → x ≠ Bs → h'.get? x = some o → (h'.update Bs (Obj.mapSeq fun _ => #[v, v])).get? x = some o := fun x o _ h2 q => (Heap.get?_update_other _ _ (Ne.symm h2)).trans q
      refine wpAny_pure ⟨plainId_quiet PySem.F.plain_min_loop _, ih (j + 1) _ v _ (by omega) lt1 (Wk.frame _ _ _ st' fun x hx o q => (Heap.get?_update_other _ _ (fun z : Bs = x => hB (by rw [z]; exact hx))).trans q) (hg _ _ gd' up) (by simp only [argBest, e, if_true]; exact pv) (Heap.get?_update_self _ hb' rfl) fun v' h2 tk2 p2 k2 => ?_⟩
      exact fin v' h2 tk2 p2 fun x o h1 hn q => k2 x o h1 hn (up x o h1 hn (kp x o h1 q))
    | false =>
      simp only [Bool.false_eq_true, if_false]
      refine wpAny_bind (wpAny_letGo ?_)
      rw [nm_min]
      refine wpAny_pure ⟨plainId_quiet PySem.F.plain_min_loop _, ih (j + 1) _ bv ep (by omega) lt1 st' gd' (by simp only [argBest, e, Bool.false_eq_true, if_false]; exact pb) hb' fun v' h2 tk2 p2 k2 => fin v' h2 tk2 p2 fun x o h1 hn q => k2 x o h1 hn (kp x o h1 q)⟩
theorem first_min (Wk : Walks pr wd Ar.in1 It fo wt cnt At Sx) (hg : ∀ a b : Heap, Gd a → (∀ x o, x ∉ wt → x ≠ Bs → a.get? x = some o → b.get? x = some o) → Gd b) (hc : CmpIn pr wd Ar.in1 Gd At lt) (hB : Bs ∉ fo) (h0 : 0 < cnt) {t : Shared} {ep : Nat} (st : Sx 0 t.heap) (gd : Gd t.heap)
    (hb : t.heap.get? Bs = some { cls := .type "list", dict := none, data := .seq #[] ep, slots := #[] })
    (fin : ∀ v h' tk, At (argBest lt (cnt - 1)) v → (∀ x o, x ∉ wt → x ≠ Bs → t.heap.get? x = some o → h'.get? x = some o) → Re (.ok (.ret v)) { t with heap := h', toks := tk }) :
    codeAny (model pr wd) Ar (.builtin "min.loop" ⟨[.ref It, .none, .ref Bs], []⟩) Re t := by
  have nw : Bs ∉ wt := fun z => hB (Wk.sub _ z)
  refine codeAny_builtin PySem.F.entry_min_loop ?_
  rw [PySem.Around.under_plainId PySem.F.plain_min_loop _]; show wpAny _ Ar.in1 (seqItems? (.ref Bs) >>= _) _ _ t
  refine wpAny_bind (PySem.wpAny_seqItems hb rfl ?_)
  show wpAny _ Ar.in1 (tryCatch (pyNext (.ref It)) _ >>= _) _ _ t
  refine wpAny_bind (wpAny_tryCatch (Wk.item 0 t _ _ h0 st fun v h' tk pv st' kp => ?_))
  have hb' := kp Bs _ nw hb
  show wpAny _ Ar.in1 (updateSeq Bs (fun _ => #[v, v]) >>= _) _ _ _
  refine wpAny_bind (wpAny_updateSeq hb' rfl ?_)
  rw [nm_min]
  have up : ∀ x o, x ∉ wt → x ≠ Bs → h'.get? x = some o → (h'.update Bs (Obj.mapSeq fun _ => #[v, v])).get? x = some o := fun x o _ h2 q => (Heap.get?_update_other _ _ (Ne.symm h2)).trans q
  refine wpAny_pure ⟨plainId_quiet PySem.F.plain_min_loop _, loop_min Wk hg hc hB _ 0 _ v _ rfl h0 (Wk.frame _ _ _ st' fun x hx o q => (Heap.get?_update_other _ _ (fun z : Bs = x => hB (by rw [z]; exact hx))).trans q) (hg _ _ gd fun x o h1 h2 q => up x o h1 h2 (kp x o h1 q)) pv (Heap.get?_update_self _ hb' rfl) fun v' h2 tk2 p2 k2 => ?_⟩
  exact fin v' h2 tk2 p2 fun x o h1 hn q => k2 x o h1 hn (up x o h1 hn (kp x o h1 q))
end
theorem best_spec {key : Nat → Int × Int} : ∀ n : Nat, argBest (fun i j => befP (key i) (key j)) n ≤ n ∧ ∀ j, j ≤ n → befP (key j) (key (argBest (fun i j => befP (key i) (key j)) n)) = false
  | 0 => ⟨Nat.le_refl _, fun j h => by
    have : j = 0 := by omega
    subst this
    exact swoP.refl _⟩
  | n + 1 => by
    obtain ⟨h1, h2⟩ := best_spec (key := key) n
    rw [argBest]
    by_cases c : befP (key (n + 1)) (key (argBest (fun i j => befP (key i) (key j)) n)) = true
    · rw [if_pos c]
      refine ⟨Nat.le_refl _, fun j h => ?_⟩
      by_cases e : j = n + 1
      · subst e
        exact swoP.refl _
      · exact swoP.tr _ _ _ (swoP.asym _ _ c) (h2 j (by omega))
    · rw [if_neg c]
      refine ⟨by omega, fun j h => ?_⟩
      by_cases e : j = n + 1
      · subst e
        cases q : befP (key (n + 1)) (key (argBest (fun i j => befP (key i) (key j)) n)) with
        | true => exact absurd q c
        | false => rfl
      · exact h2 j (by omega)
theorem bef_lexAt {p q : Int × Int} : Ob.lexAt (fun j => decide ([p.1, p.2].getD j 0 = [q.1, q.2].getD j 0)) (fun j => decide ([p.1, p.2].getD j 0 < [q.1, q.2].getD j 0)) (decide ((2 : Nat) < 2)) 0 2 = befP p q := by
  unfold befP
  rw [Ob.lexAt_succ, Ob.lexAt_succ, Ob.lexAt_zero]
  show (if decide (p.1 = q.1) = true then (if decide (p.2 = q.2) = true then decide ((2 : Nat) < 2) else decide (p.2 < q.2)) else decide (p.1 < q.1)) = _
  by_cases e : p.1 = q.1
  · rw [if_pos (decide_eq_true e), if_pos e]
    by_cases f : p.2 = q.2
    · rw [if_pos (decide_eq_true f), decide_eq_false (show ¬ p.2 < q.2 by omega)]
      rfl
    · rw [if_neg (by rw [decide_eq_false f]; exact Bool.false_ne_true)]
  · rw [if_neg (by rw [decide_eq_false e]; exact Bool.false_ne_true), if_neg e]
/-- two pairs, compared -/
theorem pair_rc {pr : Program} {wd : World} {Ar : Around} {t : Shared} {Q E : Value → Shared → Prop} {a b : Addr} {p q : Int × Int} {t1 t2 t3 t4 : Tok} (hu : Ar.units < cLine) (ha : t.heap.IsTuple a #[.int p.1 t1, .int p.2 t2]) (hb : t.heap.IsTuple b #[.int q.1 t3, .int q.2 t4]) (h : Q (.bool (befP p q)) t) :
    wpAny (model pr wd) Ar (richCompare .Lt (.ref a) (.ref b)) Q E t := by
  have R := Ob.RcOp.tuples_lt (A := Ar) (s := t) (e := fun j => decide ([p.1, p.2].getD j 0 = [q.1, q.2].getD j 0)) (r := fun j => decide ([p.1, p.2].getD j 0 < [q.1, q.2].getD j 0)) ha hb hu (fun j h1 h2 => by
    have z : ∀ x y : Int, (x == y) = decide (x = y) := fun x y => by
      by_cases q : x = y
      · rw [decide_eq_true q]; exact beq_iff_eq.mpr q
      · rw [decide_eq_false q]; exact beq_eq_false_iff_ne.mpr q
    match j, h1 with
    | 0, _ =>
      show SeqAt.EqAt Ar.in1 t (.int p.1 t1) (.int q.1 t3) (decide (p.1 = q.1))
      rw [← z]
      exact SeqAt.EqAt.int_int _ _ _ _
    | 1, _ =>
      show SeqAt.EqAt Ar.in1 t (.int p.2 t2) (.int q.2 t4) (decide (p.2 = q.2))
      rw [← z]
      exact SeqAt.EqAt.int_int _ _ _ _) (fun j h1 h2 _ => by
    match j, h1 with
    | 0, _ => exact Ob.RcOp.lt_int p.1 q.1 t1 t3
    | 1, _ => exact Ob.RcOp.lt_int p.2 q.2 t2 t4)
  refine R pr wd E Q ?_
  have e := bef_lexAt (p := p) (q := q)
  exact e.symm ▸ h
theorem min_pairs {pr : Program} {wd : World} {Ar : Around} {t : Shared} {Q E : Value → Shared → Prop} {l : Addr} {its : List Value} {k : Value → Int × Int} (hh : Ar.handled = none) (hu : Ar.in1.units < cLine) (hl : t.heap.IsList l its.toArray) (hne : 0 < its.length)
    (hp : ∀ v ∈ its, ∃ a t1 t2, v = .ref a ∧ t.heap.IsTuple a #[.int (k v).1 t1, .int (k v).2 t2])
    (h : ∀ v h' tk, v ∈ its → (∀ u ∈ its, befP (k u) (k v) = false) → (∀ x o, t.heap.get? x = some o → h'.get? x = some o) → Q v { t with heap := h', toks := tk }) :
    wpAny (model pr wd) Ar (call (.builtin "min") [.ref l]) Q E t := by
  refine call_function_tree PySem.F.kind_min PySem.F.plain_min PySem.F.entry_min (PySem.F.args_min1 _) ?_
  show wpAny _ Ar.in1 (Builtin.Builtins.bindParams "min" ["key", "default"] 0 ⟨[], []⟩ >>= _) _ _ t
  refine wpAny_bind (wpAny_of_eq (show Builtin.Builtins.bindParams "min" ["key", "default"] 0 ⟨[], []⟩ = pure [none, none] from rfl) (wpAny_bind (wpAny_pure ?_)))
  refine wpAny_bind (iter_anyList hl fun t2 e st hfp hlI => ?_)
  subst e
  refine wpAny_bind (wpAny_newObj_type ?_)
  rw [nm_min]
  have W0 := Walks.list (prog := pr) (w := wd) (A := Ar.in1) hh t.heap.objs.size l hlI its.toArray
  have hk : ∀ x o, t.heap.get? x = some o → x ≠ t.heap.objs.size := fun x o q => Nat.ne_of_lt (Heap.lt_size q)
  have sz : (t.heap.push { cls := .type "list_iterator", data := .fields #[.ref l, .int 0 0] }).objs.size = t.heap.objs.size + 1 := Heap.size_push ..
  have gd0 : ∀ x o, t.heap.get? x = some o → ((t.heap.push { cls := .type "list_iterator", data := .fields #[.ref l, .int 0 0] }).push { cls := .type "list", data := .seq #[] }).get? x = some o := fun x o q => Heap.get?_push_of_some _ (Heap.get?_push_of_some _ q)
  refine wpAny_pure ⟨plainId_quiet PySem.F.plain_min_loop _, ?_⟩
  refine first_min (Gd := fun g => ∀ x o, t.heap.get? x = some o → g.get? x = some o) (lt := fun i j => befP (k (its.getD i .none)) (k (its.getD j .none))) W0 (fun a b ga kp x o q => kp x o (fun z => hk x o q (by simpa using z)) (fun z => by
      have z1 : x < t.heap.objs.size := Heap.lt_size q
      have z2 : x = t.heap.objs.size + 1 := z.trans sz
      exact absurd z1 (by rw [z2]; exact Nat.not_lt.mpr (Nat.le_succ _))) (ga x o q)) (fun i j x y t3 Q E g hx hy hq => ?_) (fun z => ?_) (by simpa using hne) (W0.frame _ _ _ st fun b _ o e => Heap.get?_push_of_some _ e) gd0 (Heap.get?_push_size _ rfl) fun v h' tk pv kp => ?_
  · have at_ : ∀ (i : Nat) (x : Value), its.toArray[i]? = some x → x ∈ its ∧ its.getD i .none = x := fun i x e => by
      have e' : its[i]? = some x := by simpa using e
      exact ⟨List.mem_of_getElem? e', by rw [List.getD_eq_getElem?_getD, e']; rfl⟩
    obtain ⟨mx, ex⟩ := at_ i x hx
    obtain ⟨my, ey⟩ := at_ j y hy
    dsimp only at hq
    rw [ex, ey] at hq
    obtain ⟨a, t1, t2, rfl, ha⟩ := hp x mx
    obtain ⟨b, t5, t4, rfl, hb⟩ := hp y my
    exact pair_rc hu (ha.at fun o q => g _ _ q) (hb.at fun o q => g _ _ q) hq
  · have z1 := hfp _ z
    exact Nat.lt_irrefl _ z1
  · have e' : its[argBest (fun i j => befP (k (its.getD i .none)) (k (its.getD j .none))) (its.toArray.size - 1)]? = some v := by simpa using pv
    have sp := best_spec (key := fun i => k (its.getD i .none)) (its.toArray.size - 1)
    have ev : its.getD (argBest (fun i j => befP (k (its.getD i .none)) (k (its.getD j .none))) (its.toArray.size - 1)) .none = v := by rw [List.getD_eq_getElem?_getD, e']; rfl
    refine h v h' tk (List.mem_of_getElem? e') (fun u mu => ?_) fun x o q => kp x o (fun z => hk x o q (by simpa using z)) (fun z => by
      have z1 : x < t.heap.objs.size := Heap.lt_size q
      have z2 : x = t.heap.objs.size + 1 := z.trans sz
      exact absurd z1 (by rw [z2]; exact Nat.not_lt.mpr (Nat.le_succ _))) (gd0 x o q)
    obtain ⟨j, hj, ej⟩ := List.getElem_of_mem mu
    have := sp.2 j (by rw [List.size_toArray]; omega)
    rw [ev, List.getD_eq_getElem?_getD, List.getElem?_eq_getElem hj, ej] at this
    exact this
theorem bef_eq {p q : Int × Int} (h1 : befP p q = false) (h2 : befP q p = false) : p = q := by
  have a := befP_no.mp h1
  have b := befP_no.mp h2
  obtain ⟨x, y⟩ := p
  obtain ⟨z, w⟩ := q
  simp only [Prod.mk.injEq] at a b ⊢
  omega
theorem minP_spec : ∀ (r : List (Int × Int)) (p : Int × Int), (r.foldl (fun m x => if befP x m then x else m) p) ∈ p :: r ∧ ∀ y ∈ p :: r, befP y (r.foldl (fun m x => if befP x m then x else m) p) = false
  | [], p => ⟨by simp, fun y m => by
    have : y = p := by simpa using m
    subst this
    exact swoP.refl _⟩
  | x :: r, p => by
    rw [List.foldl_cons]
    obtain ⟨h1, h2⟩ := minP_spec r (if befP x p then x else p)
    have hp := h2 _ List.mem_cons_self
    refine ⟨?_, fun y m => ?_⟩
    · rcases List.mem_cons.mp h1 with e | m
      · rw [e]
        split <;> simp
      · exact List.mem_cons_of_mem _ (List.mem_cons_of_mem _ m)
    · by_cases c : befP x p = true
      · rw [if_pos c] at h2 hp ⊢
        rcases List.mem_cons.mp m with rfl | m
        · exact swoP.tr _ _ _ hp (swoP.asym _ _ c)
        · rcases List.mem_cons.mp m with rfl | m
          · exact hp
          · exact h2 y (List.mem_cons_of_mem _ m)
      · rw [if_neg c] at h2 hp ⊢
        have c : befP x p = false := by cases e : befP x p with
          | true => exact absurd e c
          | false => rfl
        rcases List.mem_cons.mp m with rfl | m
        · exact hp
        · rcases List.mem_cons.mp m with rfl | m
          · exact swoP.tr _ _ _ hp c
          · exact h2 y (List.mem_cons_of_mem _ m)
def rMinQ (K : PySem.W.Frag) : List V → Hp → VK → Prop := fun vs H Q => ∃ (a : Addr) (xs : List V) (ps : List (Int × Int)) (Z : Hp), vs = [V.ref a] ∧ SqL K H a xs ∧ (∀ a o, Z a = some o → H a = some o) ∧ PrL K Z ps xs ∧ ps ≠ [] ∧
  ∀ t p, p ∈ ps → (∀ q ∈ ps, befP q p = false) → SqT K Z t [.int p.1, .int p.2] → Q (.ref t) H
section
variable {X : Cx}
theorem cr_minQ (hc : X.calm = true) (hu : X.A.in1.units < cLine) : CallR X (.builtin "min") (rMinQ X.K) := by
  intro pins s σ H vs us Q I r h
  obtain ⟨a, xs, ps, Z, rfl, hs, zs, hx, hne, q⟩ := h
  obtain ⟨its, rv, hl, hz⟩ := I.list hs
  obtain ⟨u, rfl, ru⟩ := vals1 r
  obtain rfl : u = Value.ref a := ru
  have hk : ∀ v ∈ xs, ∃ t, v = V.ref t ∧ SqT X.K Z t [.int (prK s.heap v).1, .int (prK s.heap v).2] := fun v m => by
    obtain ⟨t, p, e, qq⟩ := hx.mem v m
    subst e
    refine ⟨t, rfl, ?_⟩
    rw [(prK_at I (sqT_mono zs qq)).1]
    exact qq
  obtain ⟨e1, e2⟩ := refs_back rv fun x m => by
    obtain ⟨t, e, _⟩ := hk x m
    exact ⟨t, e⟩
  have ek : (its.map fun u => prK s.heap (backV u)) = ps := by
    have := (hx.up zs).keys I
    rw [e1, List.map_map] at this
    exact this
  have at_ : ∀ v ∈ its, ∃ t, v = Value.ref t ∧ SqT X.K Z t [.int (prK s.heap (backV v)).1, .int (prK s.heap (backV v)).2] := fun v m => by
    obtain ⟨t, rfl⟩ := e2 v m
    obtain ⟨t', e, qq⟩ := hk (V.ref t) (by rw [e1]; exact List.mem_map.mpr ⟨_, m, rfl⟩)
    cases e
    exact ⟨t, rfl, qq⟩
  have hn : 0 < its.length := by
    rw [← rv.length, hx.len]
    exact List.length_pos_iff.mpr hne
  refine min_pairs (k := fun u => prK s.heap (backV u)) (I.ok.hd hc) hu hl.isList hn (fun v m => ?_) fun v h' tk m hmin kp => ?_
  · obtain ⟨t, rfl, qq⟩ := at_ v m
    obtain ⟨_, o, t1, t2, n, ho, hcl, hd⟩ := prK_at I (sqT_mono zs qq)
    exact ⟨t, t1, t2, rfl, o, ho, hcl, n, hd⟩
  · obtain ⟨t, rfl, qq⟩ := at_ v m
    refine ⟨.ref t, H, I.kept kp, rfl, q t _ (by rw [← ek]; exact List.mem_map.mpr ⟨_, m, rfl⟩) (fun p mp => ?_) qq⟩
    rw [← ek] at mp
    obtain ⟨u, mu, rfl⟩ := List.mem_map.mp mp
    exact hmin u mu
end
end Mi
/-! Mi: subscripts, slices, built-in calls on data. -/
namespace Mi
open PySem PySem.Spec PyProof.Rows L2
def wX (X : Cx) (σ : Sg) (x y : V) (H : Hp) (Q : VK) : Prop :=
  ∀ (value slice : Expr) (pins : List (Addr × Obj)) (s : Shared) (v u : Value), Inv X pins σ H s → RelV x v → RelV y u → subscripted slice false v u = operate [v, u] (getItem v u) → wpAny (model X.prog X.w) X.A (subscriptTail value slice v u) (EP X pins σ Q) X.xe s
theorem ixR_w {X : Cx} : IxR X (fun x y H Q => ∀ σ, wX X σ x y H Q) := fun value slice pins s σ H x y v u Q I rx ry h hs => h σ value slice pins s v u I rx ry hs
theorem wX_of {X : Cx} {σ : Sg} {x y : V} {H : Hp} {Q : VK} {r : L2.R2} (p : IxR X r) (h : r x y H Q) : wX X σ x y H Q := fun value slice pins s v u I rx ry hs => p value slice pins s σ H x y v u Q I rx ry h hs
def wSl (X : Cx) (σ : Sg) (x : V) (lo hi : Option Int) (H : Hp) (Q : VK) : Prop := ∀ (pins : List (Addr × Obj)) (s : Shared) (v vl vu : Value) (sl : Addr), Inv X pins σ H s → RelV x v → s.heap.IsSliceOf sl vl vu .none → IsPart vl lo → IsPart vu hi →
  ∃ T id, typeLookup (.type T) "__getitem__" = pure (some (.builtin id)) ∧ s.TypeIs v T ∧ wpAny (model X.prog X.w) X.A (getItem v (.ref sl)) (EP X pins σ Q) X.xe s
theorem slR_w {X : Cx} : L2.SlR X (fun x lo hi H Q => ∀ σ, wSl X σ x lo hi H Q) := fun pins s σ H x v vl vu lo hi sl Q I rx h1 h2 h3 h => h σ pins s v vl vu sl I rx h1 h2 h3
theorem wSl_of {X : Cx} {σ : Sg} {x : V} {lo hi : Option Int} {H : Hp} {Q : VK} {r : V → Option Int → Option Int → Hp → VK → Prop} (p : L2.SlR X r) (h : r x lo hi H Q) : wSl X σ x lo hi H Q := fun pins s v vl vu sl I rx h1 h2 h3 => p pins s σ H x v vl vu lo hi sl Q I rx h1 h2 h3 h

section
variable {pg : Pg} {X : Cx} {g : Gh} {H : Hp} {h : Sh} {σ : Sg}
theorem atI_get {α : Type} {xs : List α} {i : Int} {x : α} (e : atI xs i = some x) : ∃ j, ixN xs.length i = some j ∧ xs[j]? = some x := by
  unfold atI at e
  cases q : ixN xs.length i with
  | none => rw [q] at e; cases e
  | some j => rw [q] at e; exact ⟨j, rfl, e⟩
theorem RpL.atI {K : PySem.W.Frag} {Z : Hp} {ds : List PyData} {vs : List V} {i : Int} {x : PyData} (r : RpL K Z ds vs) (e : L2.atI ds i = some x) : ∃ v, L2.atI vs i = some v ∧ Rp K Z x v := by
  obtain ⟨j, e1, e2⟩ := atI_get e
  obtain ⟨v, e3, r3⟩ := r.get e2
  refine ⟨v, ?_, r3⟩
  unfold L2.atI
  rw [r.length, e1]
  exact e3
theorem ix_ok {x y : Vl} {z : PyData} {vx vy : V} (hK : X.K = pg.K) (s : Sim pg.K g h H) (rx : PkR pg.K g H x vx) (ry : PkR pg.K g H y vy) (e : ixV h x y = some z) {Q : VK}
    (hQ : ∀ v H' g', Sim pg.K g' h H' → Pres g H g' H' → VlRel pg.K g' H' (.d z) v → Q v H') : wX X σ vx vy H Q := by
  unfold ixV at e
  split at e
  · rename_i x i
    cases (show vy = .int i from PkD.int ry)
    unfold ixD at e
    split at e
    · obtain ⟨a, vs, rfl, hq, r⟩ := PkD.tuple s rx
      obtain ⟨v, e1, r1⟩ := r.atI e
      exact wX_of ix_tup ⟨a, vs, i, v, rfl, rfl, hK ▸ hq, e1, ok_it s r1 hQ⟩
    · obtain ⟨a, vs, rfl, hq, r⟩ := PkD.list s rx
      obtain ⟨v, e1, r1⟩ := r.atI e
      exact wX_of ix_list ⟨a, vs, i, v, rfl, rfl, .of hq, e1, ok_it s r1 hQ⟩
    · rename_i t
      cases (show vx = .str t from PkD.str rx)
      split at e
      · rename_i c
        obtain ⟨k, e1, rfl⟩ := Option.map_eq_some_iff.mp e
        exact wX_of ix_str ⟨t, i, k, rfl, rfl, szL ▸ c, e1, ok_str s hQ⟩
      · cases e
    · cases e
  · rename_i n i
    cases (show vy = .int i from PkD.int ry)
    rcases rx with ⟨a, ea, rfl⟩ | ⟨_, _, _, e0, _⟩
    · split at e
      · rename_i xs hn
        obtain ⟨b, eb, vs, hb, r⟩ := s.obj n _ hn
        rw [ea] at eb; cases eb
        obtain ⟨v, e1, r1⟩ := r.atI e
        exact wX_of ix_list ⟨a, vs, i, v, rfl, rfl, .of hb, e1, ok_it s r1 hQ⟩
      · cases e
    · cases e0
  · rename_i xs i
    cases (show vy = .int i from PkD.int ry)
    rcases rx with ⟨a, rfl, hb⟩ | ⟨_, _, _, e0, _⟩
    · obtain ⟨k, e1, rfl⟩ := Option.map_eq_some_iff.mp e
      refine wX_of ix_list ⟨a, xs.map V.int, i, .int k, rfl, rfl, hK ▸ sqL_mono s.sub hb, ?_, ok_int s hQ⟩
      obtain ⟨j, q1, q2⟩ := atI_get e1
      unfold atI
      rw [List.length_map, q1]
      show (xs.map V.int)[j]? = _
      rw [List.getElem?_map, q2]
      rfl
    · cases e0
  · cases e
theorem slice_ok {x z : PyData} {vx : V} {lo hi : Option Int} (hK : X.K = pg.K) (s : Sim pg.K g h H) (rx : PkD pg.K g H x vx) (e : sliceD x lo hi = some z) {Q : VK}
    (hQ : ∀ v H' g', Sim pg.K g' h H' → Pres g H g' H' → VlRel pg.K g' H' (.d z) v → Q v H') : wSl X σ vx lo hi H Q := by
  unfold sliceD at e
  split at e
  · rename_i xs
    cases e
    obtain ⟨a, vs, rfl, hq, r⟩ := PkD.tuple s rx
    refine wSl_of sl_tupA ⟨a, vs, rfl, hK ▸ hq, fun c => ?_, fun _ => ok_tup s (r.cut lo hi) hQ⟩
    have ec : cut xs lo hi = xs := by
      unfold cut
      rw [← r.length, c.1, c.2, r.length, List.drop_zero, Nat.sub_zero, List.take_length]
    rw [ec] at hQ
    rcases rx with rx | ⟨_, _, _, e, _⟩
    · exact ok_it s rx hQ
    · cases e
  · rename_i xs
    cases e
    obtain ⟨a, vs, rfl, hq, r⟩ := PkD.list s rx
    exact wSl_of sl_list ⟨a, vs, rfl, .of hq, ok_lst s (r.cut lo hi) hQ⟩
  · rename_i t
    cases rx.str
    split at e
    · rename_i c
      cases e
      exact wSl_of sl_str ⟨t, rfl, szL ▸ c, ok_str s hQ⟩
    · cases e
  · cases e

/-! ### repr -/
mutual
/-- data as it lies; no dict is the table of the modules -/
inductive RdS (hp : Heap) : Value → PyData → Prop
  | none : RdS hp .none .none
  | bool (b : Bool) : RdS hp (.bool b) (.bool b)
  | int (i : Int) (t : Tok) : RdS hp (.int i t) (.int i)
  | str (x : Str) (t : Tok) : RdS hp (.str x t) (.str x)
  | list {a : Addr} {o : Obj} {vs : Array Value} {n : Nat} {xs : List PyData} : hp.get? a = some o → o.cls = .type "list" → o.data = .seq vs n → RdSL hp vs.toList xs → RdS hp (.ref a) (.list xs)
  | tuple {a : Addr} {o : Obj} {vs : Array Value} {n : Nat} {xs : List PyData} : hp.get? a = some o → o.cls = .type "tuple" → o.data = .seq vs n → RdSL hp vs.toList xs → RdS hp (.ref a) (.tuple xs)
  | dict {a : Addr} {o : Obj} {es : Array DictEntry} {n : Nat} {kvs : List (PyData × PyData)} : (a == sysModules) = false → hp.get? a = some o → o.cls = .type "dict" → o.data = .dict es n →
      RdSL hp (es.toList.map (·.key)) (kvs.map (·.1)) → RdSL hp (es.toList.map (·.val)) (kvs.map (·.2)) → RdS hp (.ref a) (.dict kvs)
inductive RdSL (hp : Heap) : List Value → List PyData → Prop
  | nil : RdSL hp [] []
  | cons {v : Value} {vs : List Value} {d : PyData} {ds : List PyData} : RdS hp v d → RdSL hp vs ds → RdSL hp (v :: vs) (d :: ds)
end
mutual
theorem RdS.reads {hp : Heap} : ∀ {v : Value} {d : PyData}, RdS hp v d → ∃ as, Reads hp v d as
  | _, _, .none => ⟨_, .none⟩
  | _, _, .bool b => ⟨_, .bool b⟩
  | _, _, .int i t => ⟨_, .int i t⟩
  | _, _, .str x t => ⟨_, .str x t⟩
  | _, _, .list e1 e2 e3 e4 => let ⟨_, q⟩ := RdSL.reads e4; ⟨_, .list e1 e2 e3 q⟩
  | _, _, .tuple e1 e2 e3 e4 => let ⟨_, q⟩ := RdSL.reads e4; ⟨_, .tuple e1 e2 e3 q⟩
  | _, _, .dict _ e1 e2 e3 e4 e5 => let ⟨_, q⟩ := RdSL.reads e4; let ⟨_, q2⟩ := RdSL.reads e5; ⟨_, .dict e1 e2 e3 q q2⟩
theorem RdSL.reads {hp : Heap} : ∀ {vs : List Value} {ds : List PyData}, RdSL hp vs ds → ∃ as, ReadsAll hp vs ds as
  | _, _, .nil => ⟨_, .nil⟩
  | _, _, .cons r t => let ⟨_, q⟩ := RdS.reads r; let ⟨_, q2⟩ := RdSL.reads t; ⟨_, .cons q q2⟩
end
section
variable {P : Program} {w : World} {hp : Heap}
mutual
theorem RdS.shows : ∀ {v : Value} {d : PyData}, RdS hp v d → d.showable = true → d.shown.length ≤ sizeLine → ∃ bs, ReadAtMost hp d.depth bs ∧ ReprK P w bs hp d.depth v d.shown
  | _, _, .none, _, _ => ⟨[], (fun _ m => nomatch m), by rw [PyData.shown]; exact .of_is ReprIs.none _ _ _⟩
  | _, _, .bool b, _, _ => ⟨[], (fun _ m => nomatch m), by rw [PyData.shown]; exact .of_is (ReprIs.bool b) _ _ _⟩
  | _, _, .int i t, c, _ => ⟨[], (fun _ m => nomatch m), by rw [PyData.shown]; exact .of_is (ReprIs.int t (by rw [PyData.showable] at c; exact of_decide_eq_true c)) _ _ _⟩
  | _, _, .str x t, _, z => ⟨[], (fun _ m => nomatch m), by rw [PyData.shown] at z ⊢; exact .of_is (ReprIs.str x t z) _ _ _⟩
  | _, _, .list (a := a) (vs := vs) (xs := xs) e1 e2 e3 e4, c, z => by
    rw [PyData.shown] at z
    rw [PyData.showable] at c
    obtain ⟨bs, q1, q2⟩ := RdSL.shows e4 c fun t m => Nat.le_trans (listText_mem_le m) z
    obtain ⟨as, q3⟩ := RdSL.reads e4
    have rd : Reads hp (.ref a) (.list xs) _ := .list e1 e2 e3 q3
    have na : a ∉ bs := not_mem_of_deeper rd (by rw [PyData.depth]; omega) q1
    refine ⟨a :: bs, ReadAtMost.cons rd (by rw [PyData.depth]; omega) q1, ?_⟩
    rw [PyData.depth, PyData.shown]
    obtain ⟨l⟩ := vs
    cases l with
    | nil =>
      cases (show RdSL hp [] xs from e4)
      rw [PyData.shownAll, listText_nil]
      exact ReprK.listEmpty e1 e2 e3
    | cons x l => exact ReprK.list e1 e2 e3 na (by simpa using q2.length_eq) fun i y e => q2.item i y (by simpa using e)
  | _, _, .tuple (a := a) (vs := vs) (xs := xs) e1 e2 e3 e4, c, z => by
    rw [PyData.shown] at z
    rw [PyData.showable] at c
    obtain ⟨bs, q1, q2⟩ := RdSL.shows e4 c fun t m => Nat.le_trans (tupleText_mem_le m) z
    obtain ⟨as, q3⟩ := RdSL.reads e4
    have rd : Reads hp (.ref a) (.tuple xs) _ := .tuple e1 e2 e3 q3
    refine ⟨a :: bs, ReadAtMost.cons rd (by rw [PyData.depth]; omega) q1, ?_⟩
    rw [PyData.depth, PyData.shown]
    exact ReprK.tuple e1 e2 e3 (not_mem_of_deeper rd (by rw [PyData.depth]; omega) q1) q2
  | _, _, .dict (a := a) (es := es) (kvs := kvs) e0 e1 e2 e3 e4 e5, c, z => by
    rw [PyData.shown] at z
    rw [PyData.showable] at c
    obtain ⟨c1, c2⟩ := PyData.showableKv_split kvs c
    obtain ⟨b1, q1, k1⟩ := RdSL.shows e4 c1 fun t m => let ⟨_, m2, l⟩ := PyData.shownKv_key_le kvs t m; Nat.le_trans l (Nat.le_trans (dictText_mem_le m2) z)
    obtain ⟨b2, q2, k2⟩ := RdSL.shows e5 c2 fun t m => let ⟨_, m2, l⟩ := PyData.shownKv_val_le kvs t m; Nat.le_trans l (Nat.le_trans (dictText_mem_le m2) z)
    obtain ⟨as, r1⟩ := RdSL.reads e4
    obtain ⟨as2, r2⟩ := RdSL.reads e5
    have qb : ReadAtMost hp (PyData.depthKv kvs) (b1 ++ b2) := (q1.mono (PyData.depthAll_keys_le kvs)).append (q2.mono (PyData.depthAll_vals_le kvs))
    have rd : Reads hp (.ref a) (.dict kvs) _ := .dict e1 e2 e3 r1 r2
    refine ⟨a :: (b1 ++ b2), ReadAtMost.cons rd (by rw [PyData.depth]; omega) qb, ?_⟩
    rw [PyData.depth, PyData.shown, PyData.shownKv_eq]
    exact ReprK.dict e1 e2 e3 e0 (not_mem_of_deeper rd (by rw [PyData.depth]; omega) qb) (ReprEntriesK.of_two es.toList _ _
      (k1.more_le (fun b m => List.mem_append_left _ m) (PyData.depthAll_keys_le kvs)) (k2.more_le (fun b m => List.mem_append_right _ m) (PyData.depthAll_vals_le kvs)))
theorem RdSL.shows : ∀ {vs : List Value} {ds : List PyData}, RdSL hp vs ds → PyData.showableAll ds = true → (∀ t ∈ PyData.shownAll ds, t.length ≤ sizeLine) → ∃ bs, ReadAtMost hp (PyData.depthAll ds) bs ∧ ReprAllK P w bs hp (PyData.depthAll ds) vs (PyData.shownAll ds)
  | _, _, .nil, _, _ => ⟨[], (fun _ m => nomatch m), by rw [PyData.shownAll]; exact .nil⟩
  | _, _, .cons (d := d) (ds := ds) r t, c, z => by
    rw [PyData.showableAll, Bool.and_eq_true] at c
    rw [PyData.shownAll] at z
    obtain ⟨b1, q1, k1⟩ := RdS.shows r c.1 (z _ List.mem_cons_self)
    obtain ⟨b2, q2, k2⟩ := RdSL.shows t c.2 fun x m => z x (List.mem_cons_of_mem _ m)
    refine ⟨b1 ++ b2, ?_, ?_⟩
    · rw [PyData.depthAll]
      exact (q1.mono (Nat.le_max_left _ _)).append (q2.mono (Nat.le_max_right _ _))
    · rw [PyData.depthAll, PyData.shownAll]
      exact .cons ((k1.more fun b m => List.mem_append_left _ m).level_le (Nat.le_max_left _ _)) (k2.more_le (fun b m => List.mem_append_right _ m) (Nat.le_max_right _ _))
end
end
mutual
theorem Rp.rds {pins : List (Addr × Obj)} {s1 : Shared} {Z : Hp} (m : ∀ a o, Z a = some o → H a = some o) (I : Inv X pins σ H s1) : ∀ (d : PyData) (v : V) (u : Value), noE d = true → Rp X.K Z d v → RelV v u → RdS s1.heap u d
  | .none, _, _, _, r, ru => by simp only [Rp] at r; subst r; cases ru; exact .none
  | .bool b, _, _, _, r, ru => by simp only [Rp] at r; subst r; cases ru; exact .bool b
  | .int i, _, _, _, r, ru => by simp only [Rp] at r; subst r; obtain ⟨t, rfl⟩ := ru; exact .int i t
  | .str x, _, _, _, r, ru => by simp only [Rp] at r; subst r; obtain ⟨t, rfl⟩ := ru; exact .str x t
  | .list xs, _, _, c, r, ru => by
    rw [noE] at c
    simp only [Rp] at r
    obtain ⟨a, vs, rfl, hz, rl⟩ := r
    cases ru
    obtain ⟨its, rv, ⟨o, n, e1, e2, _, e3⟩, _⟩ := I.list (.of (m _ _ hz))
    exact .list e1 e2 e3 (RpL.rds m I xs vs its c rl rv)
  | .tuple xs, _, _, c, r, ru => by
    rw [noE] at c
    simp only [Rp] at r
    obtain ⟨a, vs, rfl, hz, rl⟩ := r
    cases ru
    obtain ⟨its, rv, ⟨o, e1, e2, n, e3⟩, _⟩ := I.tuple (sqT_mono m hz)
    exact .tuple e1 e2 e3 (RpL.rds m I xs vs its c rl rv)
  | .dict kvs, _, _, c, r, ru => by
    rw [noE] at c
    simp only [Rp] at r
    have ek : kvs = [] := by simpa using c
    rcases r with ⟨a, l, rfl, hz, rl⟩ | r
    rotate_left
    · exact (r.isRef.2 ek).elim
    cases ru
    obtain ⟨_, ns, vs, kv, o, es, ep, e1, e2, e3, _, pr, _⟩ := I.hok a _ (m _ _ hz)
    subst ek
    simp only [RpM] at rl
    subst rl
    have q : RdSL s1.heap (es.toList.map (·.key)) [] ∧ RdSL s1.heap (es.toList.map (·.val)) [] := by
      generalize es.toList = es' at pr ⊢
      cases kv
      cases pr
      exact ⟨.nil, .nil⟩
    exact .dict ns e1 e2.1 e3 q.1 q.2
theorem RpL.rds {pins : List (Addr × Obj)} {s1 : Shared} {Z : Hp} (m : ∀ a o, Z a = some o → H a = some o) (I : Inv X pins σ H s1) : ∀ (ds : List PyData) (vs : List V) (us : List Value), noEs ds = true → RpL X.K Z ds vs → Vals vs us → RdSL s1.heap us ds
  | [], _, _, _, r, ru => by simp only [RpL] at r; subst r; cases ru; exact .nil
  | x :: xs, _, _, c, r, ru => by
    rw [noEs, Bool.and_eq_true] at c
    simp only [RpL] at r
    obtain ⟨v, t, rfl, r1, r2⟩ := r
    cases ru with
    | cons u1 u2 => exact .cons (Rp.rds m I x v _ c.1 r1 u1) (RpL.rds m I xs t _ c.2 r2 u2)
end
theorem repr_ok {x : PyData} {v : V} (hK : X.K = pg.K) (hg : X.A.guards = some []) (hu : X.A.units + 160 < cLine) (s : Sim pg.K g h H) (r : PkD pg.K g H x v) (c : showOk x = true) {Q : VK} (q : Q (.str x.shown) H) : wC X (.builtin "repr") σ [v] H Q := by
  intro pins s1 us I rv
  obtain ⟨u, rfl, ru⟩ : ∃ u, us = [u] ∧ RelV v u := by
    cases rv with
    | cons a b => cases b; exact ⟨_, rfl, a⟩
  unfold showOk at c
  simp only [Bool.and_eq_true, decide_eq_true_eq] at c
  obtain ⟨⟨⟨c0, c1⟩, c2⟩, c3⟩ := c
  have rd : RdS s1.heap u x := by
    rcases r with r | ⟨xs, a, vs, e, rfl, hH, _, r⟩
    · exact Rp.rds s.sub I x v u c0 (hK ▸ r) ru
    · cases e
      cases ru
      obtain ⟨its, rv, ⟨o, n, e1, e2, _, e3⟩, _⟩ := I.list (.of hH)
      rw [noE] at c0
      exact .list e1 e2 e3 (RpL.rds s.sub I xs vs its c0 (hK ▸ r) rv)
  have c2 : x.shown.length ≤ sizeLine := szL ▸ c2
  have fin : ∀ (h' : Heap) (tk : Tok) (n : Nat), (∀ b o, s1.heap.get? b = some o → h'.get? b = some o) → EP X pins σ Q (.str x.shown tk) { s1 with heap := h', toks := n } := fun h' tk n k => ⟨.str _, H, I.kept k, ⟨tk, rfl⟩, q⟩
  cases rd with
  | none => rw [PyData.shown] at fin; exact PySem.P.repr_of_none (fin _ _ _ fun _ _ e => e)
  | bool b => rw [PyData.shown] at fin; exact PySem.P.repr_of_bool (fin _ _ _ fun _ _ e => e)
  | int i t => rw [PyData.shown] at fin; rw [PyData.showable] at c1; exact PySem.P.repr_of_int (of_decide_eq_true c1) (fin _ _ _ fun _ _ e => e)
  | str y t => rw [PyData.shown] at fin c2; exact PySem.P.repr_of_str (fin _ _ _ fun _ _ e => e) c2
  | @list a o vs n xs e1 e2 e3 e4 =>
    rw [PyData.shown] at fin c2
    rw [PyData.showable] at c1
    rw [PyData.depth] at c3
    obtain ⟨bs, q1, q2⟩ := RdSL.shows (P := X.prog) (w := X.w) e4 c1 fun t m => Nat.le_trans (listText_mem_le m) c2
    obtain ⟨as, q3⟩ := RdSL.reads e4
    have na : a ∉ bs := not_mem_of_deeper (.list e1 e2 e3 q3) (by rw [PyData.depth]; omega) q1
    refine call_repr_slot (by omega) ⟨o, e1, e2⟩ F.slot_list_repr.toG ?_
    obtain ⟨l⟩ := vs
    cases l with
    | nil =>
      cases (show RdSL s1.heap [] xs from e4)
      rw [PyData.shownAll, listText_nil] at fin
      exact call_list_repr_empty ⟨o, e1, e2⟩ e1 e3 ⟨_, _, rfl, fin _ _ _ fun _ _ e => e⟩
    | cons y l => exact call_list_reprK e1 e2 e3 na (by simpa using q2.length_eq) (fun i z e => q2.item i z (by simpa using e)) hg (fun b _ => Clear.nil b) (by show X.A.units + 1 + _ < _; omega) (fun _ _ e => e) (fun h' u tk k => ⟨_, _, rfl, fin h' u tk k⟩) c2
  | @tuple a o vs n xs e1 e2 e3 e4 =>
    rw [PyData.shown] at fin c2
    rw [PyData.showable] at c1
    rw [PyData.depth] at c3
    obtain ⟨bs, q1, q2⟩ := RdSL.shows (P := X.prog) (w := X.w) e4 c1 fun t m => Nat.le_trans (tupleText_mem_le m) c2
    obtain ⟨as, q3⟩ := RdSL.reads e4
    refine call_repr_slot (by omega) ⟨o, e1, e2⟩ F.slot_tuple_repr ?_
    exact call_tuple_reprK e1 e2 e3 (not_mem_of_deeper (.tuple e1 e2 e3 q3) (by rw [PyData.depth]; omega) q1) q2 hg (fun b _ => Clear.nil b) (by show X.A.units + 1 + _ < _; omega) (fun _ _ e => e) (fun h' u tk k => ⟨_, _, rfl, fin h' u tk k⟩) c2
  | @dict a o es n kvs e0 e1 e2 e3 e4 e5 =>
    rw [PyData.shown] at fin c2
    rw [PyData.showable] at c1
    rw [PyData.depth] at c3
    obtain ⟨k1, k2⟩ := PyData.showableKv_split kvs c1
    obtain ⟨b1, q1, p1⟩ := RdSL.shows (P := X.prog) (w := X.w) e4 k1 fun t m => let ⟨_, m2, l⟩ := PyData.shownKv_key_le kvs t m; Nat.le_trans l (Nat.le_trans (dictText_mem_le m2) c2)
    obtain ⟨b2, q2, p2⟩ := RdSL.shows (P := X.prog) (w := X.w) e5 k2 fun t m => let ⟨_, m2, l⟩ := PyData.shownKv_val_le kvs t m; Nat.le_trans l (Nat.le_trans (dictText_mem_le m2) c2)
    obtain ⟨as, r1⟩ := RdSL.reads e4
    obtain ⟨as2, r2⟩ := RdSL.reads e5
    have qb : ReadAtMost s1.heap (PyData.depthKv kvs) (b1 ++ b2) := (q1.mono (PyData.depthAll_keys_le kvs)).append (q2.mono (PyData.depthAll_vals_le kvs))
    refine call_repr_slot (by omega) ⟨o, e1, e2⟩ F.slot_dict_repr ?_
    rw [PyData.shownKv_eq] at fin c2
    exact call_dict_reprK e1 e2 e3 e0 (not_mem_of_deeper (.dict e1 e2 e3 r1 r2) (by rw [PyData.depth]; omega) qb) (ReprEntriesK.of_two es.toList _ _
      (p1.more_le (fun b m => List.mem_append_left _ m) (PyData.depthAll_keys_le kvs)) (p2.more_le (fun b m => List.mem_append_right _ m) (PyData.depthAll_vals_le kvs))) hg (fun b _ => Clear.nil b) (by show X.A.units + 1 + _ < _; omega) (fun _ _ e => e) (fun h' u tk k => ⟨_, _, rfl, fin h' u tk k⟩) c2

/-- the built-in that stands behind a name -/
def biF : BI → Value
  | .len => .builtin "len"
  | .abs => .builtin "abs"
  | .min => .builtin "min"
  | .max => .builtin "max"
  | .sum => .builtin "sum"
  | .int => .type "int"
  | .str => .type "str"
  | .repr => .builtin "repr"
  | .tuple => .type "tuple"
  | .list => .type "list"
  | .all => .builtin "all"
  | .any => .builtin "any"
  | .sorted => .builtin "sorted"
def PkL (K : PySem.W.Frag) (g : Gh) (H : Hp) : List PyData → List V → Prop
  | [], vs => vs = []
  | x :: xs, vs => ∃ v r, vs = v :: r ∧ PkD K g H x v ∧ PkL K g H xs r
theorem maxL_spec : ∀ (r : List Int) (i : Int), (r.foldl (fun m x => if x > m then x else m) i) ∈ i :: r ∧ ∀ y ∈ i :: r, y ≤ r.foldl (fun m x => if x > m then x else m) i
  | [], i => ⟨by simp, fun y hy => by simp at hy; subst hy; exact Int.le_refl _⟩
  | x :: r, i => by
    rw [List.foldl_cons]
    obtain ⟨h1, h2⟩ := maxL_spec r (if x > i then x else i)
    have hle : i ≤ (if x > i then x else i) ∧ x ≤ (if x > i then x else i) := by split <;> omega
    refine ⟨?_, fun y hy => ?_⟩
    · rcases List.mem_cons.mp h1 with e | m
      · rw [e]
        split <;> simp
      · exact List.mem_cons_of_mem _ (List.mem_cons_of_mem _ m)
    · have h0 := h2 _ (List.mem_cons_self ..)
      rcases List.mem_cons.mp hy with rfl | hy
      · omega
      · rcases List.mem_cons.mp hy with rfl | hy
        · omega
        · exact h2 y (List.mem_cons_of_mem _ hy)
theorem minL_spec : ∀ (r : List Int) (i : Int), (r.foldl (fun m x => if x < m then x else m) i) ∈ i :: r ∧ ∀ y ∈ i :: r, r.foldl (fun m x => if x < m then x else m) i ≤ y
  | [], i => ⟨by simp, fun y hy => by simp at hy; subst hy; exact Int.le_refl _⟩
  | x :: r, i => by
    rw [List.foldl_cons]
    obtain ⟨h1, h2⟩ := minL_spec r (if x < i then x else i)
    have hle : (if x < i then x else i) ≤ i ∧ (if x < i then x else i) ≤ x := by split <;> omega
    refine ⟨?_, fun y hy => ?_⟩
    · rcases List.mem_cons.mp h1 with e | m
      · rw [e]
        split <;> simp
      · exact List.mem_cons_of_mem _ (List.mem_cons_of_mem _ m)
    · have h0 := h2 _ (List.mem_cons_self ..)
      rcases List.mem_cons.mp hy with rfl | hy
      · omega
      · rcases List.mem_cons.mp hy with rfl | hy
        · omega
        · exact h2 y (List.mem_cons_of_mem _ hy)
theorem call_max3 {X : Cx} (hc : X.calm = true) : CallR X (.builtin "max") (fun xs H Q => ∃ i j k, xs = [.int i, .int j, .int k] ∧ Q (.int (if j > i then (if k > j then k else j) else (if k > i then k else i))) H) := by
  intro pins s σ H xs us Q I r h
  obtain ⟨i, j, k, rfl, q⟩ := h
  obtain ⟨u, w', w2, rfl, ⟨t, rfl⟩, ⟨t', rfl⟩, ⟨t2, rfl⟩⟩ := vals3 r
  refine max_three_ints (I.ok.hd hc) fun h' tk kp => ⟨_, H, I.kept kp, ?_, q⟩
  by_cases h1 : j > i <;> by_cases h2 : k > j <;> by_cases h3 : k > i <;> simp only [h1, h2, h3, if_true, if_false] <;> exact ⟨_, rfl⟩
/-- str(e) of an error that took a message -/
theorem call_str_err {X : Cx} (hu : X.A.units + 2 < cLine) : CallR X (.type "str") (fun xs H Q => ∃ a C t0 m, xs = [.ref a] ∧ H a = some (ErX a C none (some t0)) ∧ H t0 = some (.tup [.str m]) ∧ StrC X.K C ∧ Q (.str m) H) := by
  intro pins s σ H xs us Q I r h
  obtain ⟨a, C, t0, m, rfl, h1, h2, sc, q⟩ := h
  obtain rfl := Vals.ref1 r
  obtain ⟨⟨ox, vs, e1, e2, e3, e4, e5⟩, _⟩ := I.hok a _ h1
  obtain ⟨its, rv, ⟨o, f1, f2, n, f3⟩, _⟩ := I.tuple (.inl (.inl h2))
  cases rv with
  | cons r1 r2 =>
    cases r2
    obtain ⟨tk, rfl⟩ := r1
    exact PySem.P.str_of_C_one hu ⟨I.kIn, ox, vs, e1, e2, e4, e5 _ rfl⟩ ⟨o, n, f1, f2, f3⟩ sc.s sc.b ⟨.str m, H, I, ⟨_, rfl⟩, q⟩
theorem bi_ok {b : BI} {xs : List PyData} {z : PyData} {vs : List V} (hK : X.K = pg.K) (hc : X.calm = true) (hg : X.A.guards = some []) (hu : X.A.units + 190 < cLine) (s : Sim pg.K g h H) (r : PkL pg.K g H xs vs) (e : biD b xs = some z) {Q : VK}
    (hQ : ∀ v H' g', Sim pg.K g' h H' → Pres g H g' H' → VlRel pg.K g' H' (.d z) v → Q v H') : wC X (biF b) σ vs H Q := by
  unfold biD at e
  split at e
  · simp only [PkL] at r; obtain ⟨_, _, rfl, r, rfl⟩ := r; cases e
    obtain ⟨a, ws, rfl, hq, rl⟩ := PkD.tuple s r
    exact wC_of call_len_seq ⟨a, ws, rfl, .inr (hK ▸ hq), by rw [rl.length]; exact ok_int s hQ⟩
  · simp only [PkL] at r; obtain ⟨_, _, rfl, r, rfl⟩ := r; cases e
    obtain ⟨a, ws, rfl, hq, rl⟩ := PkD.list s r
    exact wC_of call_len_seq ⟨a, ws, rfl, .inl (.of hq), by rw [rl.length]; exact ok_int s hQ⟩
  · simp only [PkL] at r; obtain ⟨_, _, rfl, r, rfl⟩ := r
    cases r.str
    split at e
    · rename_i c; cases e
      exact wC_of call_len_str ⟨_, rfl, szL ▸ c, ok_int s hQ⟩
    · cases e
  · simp only [PkL] at r; obtain ⟨_, _, rfl, r, rfl⟩ := r; cases e
    cases r.int
    exact wC_of call_abs ⟨_, rfl, ok_int s hQ⟩
  · simp only [PkL] at r; obtain ⟨_, _, rfl, r, _, _, rfl, r2, rfl⟩ := r; cases e
    cases r.int; cases r2.int
    exact wC_of (call_max2 hc) ⟨_, _, rfl, ok_int s hQ⟩
  · simp only [PkL] at r; obtain ⟨_, _, rfl, r, _, _, rfl, r2, _, _, rfl, r3, rfl⟩ := r; cases e
    cases r.int; cases r2.int; cases r3.int
    exact wC_of (call_max3 hc) ⟨_, _, _, rfl, ok_int s hQ⟩
  · simp only [PkL] at r; obtain ⟨_, _, rfl, r, _, _, rfl, r2, rfl⟩ := r; cases e
    cases r.int; cases r2.int
    exact wC_of (call_min2 hc) ⟨_, _, rfl, ok_int s hQ⟩
  · simp only [PkL] at r; obtain ⟨_, _, rfl, r, rfl⟩ := r
    obtain ⟨a, ws, rfl, hq, rl⟩ := PkD.list s r
    obtain ⟨ns, e1, e2⟩ := Option.bind_eq_some_iff.mp e
    cases rl.ints e1
    cases ns with
    | nil => cases e2
    | cons i t =>
      cases e2
      obtain ⟨m1, m2⟩ := maxL_spec t i
      refine wC_of (cr_max hc) ⟨a, i :: t, rfl, .of hq, by simp, fun m hm hy => ?_⟩
      have : m = t.foldl (fun m x => if x > m then x else m) i := Int.le_antisymm (m2 m hm) (hy _ m1)
      rw [this]
      exact ok_int s hQ
  · simp only [PkL] at r; obtain ⟨_, _, rfl, r, rfl⟩ := r
    obtain ⟨a, ws, rfl, hq, rl⟩ := PkD.list s r
    split at e
    · rename_i ns e1
      cases rl.ints e1
      cases ns with
      | nil => cases e
      | cons i t =>
        cases e
        obtain ⟨m1, m2⟩ := minL_spec t i
        refine wC_of (cr_min hc) ⟨a, i :: t, rfl, .of hq, by simp, fun m hm hy => ?_⟩
        have : m = t.foldl (fun m x => if x < m then x else m) i := Int.le_antisymm (hy _ m1) (m2 m hm)
        rw [this]
        exact ok_int s hQ
    · obtain ⟨ps, e1, e2⟩ := Option.bind_eq_some_iff.mp e
      cases ps with
      | nil => cases e2
      | cons p t =>
        cases e2
        obtain ⟨m1, m2⟩ := minP_spec t p
        refine wC_of (cr_minQ hc (by show X.A.units + 1 < _; omega)) ⟨a, ws, p :: t, g.Z, rfl, .of hq, s.sub, hK ▸ rl.pairs e1, by simp, fun b q hm hy qt => ?_⟩
        have : q = t.foldl (fun m x => if befP x m then x else m) p := bef_eq (m2 q hm) (hy _ m1)
        rw [← this] at hQ
        refine ok_it s ?_ hQ
        simp only [pairD, Rp]
        exact ⟨b, _, rfl, hK ▸ qt, RpL.cons (by simp only [Rp]) (RpL.cons (by simp only [Rp]) RpL.nil)⟩
  · simp only [PkL] at r; obtain ⟨_, _, rfl, r, rfl⟩ := r
    obtain ⟨a, ws, rfl, hq, rl⟩ := PkD.list s r
    obtain ⟨ns, e1, rfl⟩ := Option.map_eq_some_iff.mp e
    cases rl.ints e1
    exact wC_of (cr_sum hc) ⟨a, ns, rfl, .of hq, ok_int s hQ⟩
  · simp only [PkL] at r; obtain ⟨_, _, rfl, r, rfl⟩ := r; cases e
    cases r.int
    exact wC_of call_int1 (.inl ⟨_, rfl, ok_int s hQ⟩)
  · simp only [PkL] at r; obtain ⟨_, _, rfl, r, rfl⟩ := r; cases e
    cases r.bool
    exact wC_of call_int1 (.inr ⟨_, rfl, ok_int s hQ⟩)
  · simp only [PkL] at r; obtain ⟨_, _, rfl, r, rfl⟩ := r
    cases r.str
    split at e
    · rename_i c
      obtain ⟨i, e1, rfl⟩ := Option.map_eq_some_iff.mp e
      exact wC_of call_int_str ⟨_, _, rfl, e1, c, ok_int s hQ⟩
    · cases e
  · simp only [PkL] at r; obtain ⟨_, _, rfl, r, rfl⟩ := r
    cases r.int
    split at e
    · rename_i c; cases e
      exact wC_of call_str_int ⟨_, rfl, okS_log c, ok_str s hQ⟩
    · cases e
  · simp only [PkL] at r; obtain ⟨_, _, rfl, r, rfl⟩ := r; cases e
    cases r.str
    exact wC_of SkE.call_str_str ⟨_, rfl, ok_str s hQ⟩
  · simp only [PkL] at r; obtain ⟨_, _, rfl, r, rfl⟩ := r; cases e
    rcases r with r | ⟨_, _, _, e, _⟩
    · simp only [VlR, Rp] at r
      rcases r with ⟨_, _, _, _, r⟩ | r
      · simp only [RpM] at r
        obtain ⟨_, _, _, _, r, _⟩ := r
        cases r
      · simp only [RpX] at r
        obtain ⟨a, C, t0, rfl, _, z1, z2, sc⟩ := r
        exact wC_of (call_str_err (hu := by omega)) ⟨a, C, t0, _, rfl, s.sub _ _ z1, s.sub _ _ z2, hK ▸ sc, ok_str s hQ⟩
    · cases e
  · rename_i d
    simp only [PkL] at r; obtain ⟨v, _, rfl, r, rfl⟩ := r
    split at e
    · rename_i c; cases e
      exact repr_ok hK hg (by omega) s r c (ok_str s hQ)
    · cases e
  · simp only [PkL] at r; obtain ⟨_, _, rfl, r, rfl⟩ := r; cases e
    obtain ⟨a, ws, rfl, hq, rl⟩ := PkD.list s r
    exact wC_of call_tuple_of ⟨a, ws, rfl, .inl ⟨.of hq, ok_tup s rl hQ⟩⟩
  · simp only [PkL] at r; obtain ⟨_, _, rfl, r, rfl⟩ := r; cases e
    obtain ⟨a, ws, rfl, hq, rl⟩ := PkD.tuple s r
    refine wC_of call_tuple_of ⟨a, ws, rfl, .inr ⟨hK ▸ hq, ?_⟩⟩
    rcases r with r | ⟨_, _, _, e, _⟩
    · exact ok_it s r hQ
    · cases e
  · simp only [PkL] at r; obtain ⟨_, _, rfl, r, rfl⟩ := r; cases e
    obtain ⟨a, ws, rfl, hq, rl⟩ := PkD.list s r
    exact wC_of call_list_of ⟨a, ws, rfl, .inl (.of hq), ok_lst s rl hQ⟩
  · simp only [PkL] at r; obtain ⟨_, _, rfl, r, rfl⟩ := r; cases e
    obtain ⟨a, ws, rfl, hq, rl⟩ := PkD.tuple s r
    exact wC_of call_list_of ⟨a, ws, rfl, .inr (hK ▸ hq), ok_lst s rl hQ⟩
  · simp only [PkL] at r; obtain ⟨_, _, rfl, r, rfl⟩ := r
    obtain ⟨a, ws, rfl, hq, rl⟩ := PkD.list s r
    obtain ⟨bs, e1, rfl⟩ := Option.map_eq_some_iff.mp e
    cases rl.bools e1
    exact wC_of (cr_all hc) ⟨a, bs, rfl, .of hq, ok_bl s hQ⟩
  · simp only [PkL] at r; obtain ⟨_, _, rfl, r, rfl⟩ := r
    obtain ⟨a, ws, rfl, hq, rl⟩ := PkD.list s r
    obtain ⟨bs, e1, rfl⟩ := Option.map_eq_some_iff.mp e
    cases rl.bools e1
    exact wC_of (cr_any hc) ⟨a, bs, rfl, .of hq, ok_bl s hQ⟩
  · simp only [PkL] at r; obtain ⟨_, _, rfl, r, rfl⟩ := r
    obtain ⟨a, ws, rfl, hq, rl⟩ := PkD.list s r
    obtain ⟨ps, e1, rfl⟩ := Option.map_eq_some_iff.mp e
    exact wC_of cr_sortedQ ⟨a, ws, ps, g.Z, rfl, .of hq, s.sub, hK ▸ rl.pairs e1, fun ys p hy np => ok_lst s (RpL.of_pairs (hK ▸ hy)) hQ p np⟩
  · cases e
theorem sum_ok {x : Vl} {z : PyData} {v : V} (hK : X.K = pg.K) (hc : X.calm = true) (s : Sim pg.K g h H) (r : PkR pg.K g H x v) (e : sumV h [x] = some z) {Q : VK}
    (hQ : ∀ v H' g', Sim pg.K g' h H' → Pres g H g' H' → VlRel pg.K g' H' (.d z) v → Q v H') : wC X (.builtin "sum") σ [v] H Q := by
  unfold sumV at e
  split at e
  · rename_i n e0
    cases e0
    rcases r with ⟨a, ea, rfl⟩ | ⟨_, _, _, e0, _⟩
    · split at e
      · rename_i xs hn
        obtain ⟨b, eb, vs, hb, rl⟩ := s.obj n _ hn
        rw [ea] at eb; cases eb
        obtain ⟨ns, e1, rfl⟩ := Option.map_eq_some_iff.mp e
        cases rl.ints e1
        exact wC_of (cr_sum hc) ⟨a, ns, rfl, .of hb, ok_int s hQ⟩
      · cases e
    · cases e0
  · cases e
/-- len of a list of the heap, of the script -/
theorem len_ok {x : Vl} {z : PyData} {v : V} (hK : X.K = pg.K) (s : Sim pg.K g h H) (r : PkR pg.K g H x v) (e : lenV h [x] = some z) {Q : VK}
    (hQ : ∀ v H' g', Sim pg.K g' h H' → Pres g H g' H' → VlRel pg.K g' H' (.d z) v → Q v H') : wC X (.builtin "len") σ [v] H Q := by
  unfold lenV at e
  split at e
  · rename_i n e0
    cases e0
    rcases r with ⟨a, ea, rfl⟩ | ⟨_, _, _, e0, _⟩
    · split at e
      · rename_i xs hn
        obtain ⟨b, eb, vs, hb, rl⟩ := s.obj n _ hn
        rw [ea] at eb; cases eb
        cases e
        exact wC_of call_len_seq ⟨a, vs, rfl, .inl (.of hb), by rw [rl.length]; exact ok_int s hQ⟩
      · cases e
    · cases e0
  · rename_i xs e0
    cases e0
    rcases r with ⟨a, rfl, hb⟩ | ⟨_, _, _, e0, _⟩
    · cases e
      exact wC_of call_len_seq ⟨a, xs.map V.int, rfl, .inl (hK ▸ sqL_mono s.sub hb), by rw [List.length_map]; exact ok_int s hQ⟩
    · cases e0
  · cases e
end
end Mi
/-! Mi: the text beside the reader's terms; expressions. -/
namespace Mi
open PySem PySem.Spec PyProof.Rows L2

/-- names of a block: by slot; its scope; the names whose cells are its own -/
structure Cd where
  N : List Str
  sc : Scope
  own : Str → Bool
/-- names of the module -/
structure Tb where
  fn : Nat → Option Str
  gl : Nat → Option Str
  cs : Nat → Option Str := fun _ => none
  sub : Nat → Nat → Bool := fun _ _ => false
  nc : Nat := 0
  vc : Nat → Option (Str × Str) := fun _ => none
  er : Str → Bool := fun _ => false
  is : Str → Str → Option Bool := fun _ _ => none

/-- an own class of errors that take a message -/
structure ClsK (K : PySem.W.Frag) (C : Addr) : Prop where
  kp : PySem.W.keepIn K (.ref C) = true
  ex : PySem.W.excIn K C [.type "ValueError", .type "Exception", .type "BaseException", .type "object"] "ValueError.__new__" = true
  be : PySem.W.subIn K (.ref C) (.type "BaseException") = some true
  ty : PySem.W.typeIn K (.ref C) = some (.type "type")
  xc : ExcC K C
  sc : StrC K C
/-- an own class of errors that keep one value, at f -/
structure ClsV (pg : Pg) (C : Addr) (f : Str) : Prop where
  mkr : ∀ (X : Cx) (x : Str) (p pos : Pos) (e : Expr), X.prog = pg.P → X.w = pg.w → X.K = pg.K → X.mg = pg.mg → X.base = pg.base → Room 2 X.A → Passes (L2.CX X.prog X.w) X (fun _ _ _ => False) → Gl X x → X.mg x = some (.ref C) → (x == ("__debug__" : Str)) = false →
    starEach [e] X.env = (false, eval e X.env) :: starEach [] X.env → PMk X (.Call (.Name x p) [e] [] pos) (fun σ H Q => wE X e σ H fun v H1 => ∀ d, H1 d = none → Q (.ref C) (some d) (upd H1 d (.xd [(f, v)])))
  xf : XfC pg.K C
  nf : PySem.W.findIn pg.K (.ref C) f = some none
/-- .. and how they stand to one another -/
structure ErK (pg : Pg) (x : Str) (C : Addr) : Prop where
  ns : PySem.W.nsIn pg.K mainGlobals x = some (some (.ref C))
  mg : pg.mg x = some (.ref C)
  xc : ExcC pg.K C
  cl : (PySem.W.clsIn pg.K C).isSome = true
/-- what a name of a class stands for -/
def NmC (pg : Pg) (y : Str) (cv : Value) : Prop := (∃ D, pg.mg y = some (.ref D) ∧ cv = .ref D) ∨ (∃ T, pg.mg y = none ∧ bootBuiltins y = some (.type T) ∧ y ≠ "__name__" ∧ cv = .type T)
structure ClsT (pg : Pg) (tb : Tb) : Prop where
  er : ∀ x, tb.er x = true → ∃ C, ErK pg x C
  is : ∀ x y b, tb.is x y = some b → ∃ C cv, ErK pg x C ∧ NmC pg y cv ∧ PySem.W.kitOne pg.K (.ref C) cv = some b
  cs : ∀ i x, tb.cs i = some x → ∃ C, pg.cl i = some C ∧ pg.mg x = some (.ref C) ∧ ClsK pg.K C
  sb : ∀ i j C D, pg.cl i = some C → pg.cl j = some D → PySem.W.exmOne pg.K (.ref C) (.ref D) = some (tb.sub i j) ∧ PySem.W.kitOne pg.K (.ref C) (.ref D) = some (tb.sub i j)
  lt : ∀ i C, pg.cl i = some C → i < tb.nc ∧ ExcC pg.K C
  vs : ∀ i x f, tb.vc i = some (x, f) → ∃ C, pg.cl i = some C ∧ pg.mg x = some (.ref C) ∧ pg.fld i = some f ∧ ClsV pg C f
/-- how a def is called: its abstract result -/
abbrev Cf := Nat → List Vl → Sh → R Vl

def VlRL (K : PySem.W.Frag) (g : Gh) : List Vl → List V → Prop
  | [], vs => vs = []
  | x :: xs, vs => ∃ v r, vs = v :: r ∧ VlR K g x v ∧ VlRL K g xs r

/-- the promise of a def -/
structure FnG (pg : Pg) (k : Nat) (f : Addr) (fd : FuncData) (ps : List Str) (F : List Vl → Sh → R Vl) : Prop where
  run : ∀ (A : Around) (outer : List Env) (s : Shared) (H : Hp) (args : Args) (us : List Value) (vs : List V) (xs : List Vl) (h : Sh) (g : Gh) (Q : VK) (E : XK), Room (k + 2) A → A.guards = some [] → Env0 pg.P pg.w pg.K pg.mg pg.base A outer s H → BindsTo s fd args (ps.zip us) →
    Vals vs us → vs.length = ps.length → Sim pg.K g h H → VlRL pg.K g xs vs →
    (match F xs h with
      | .ok x h' => ∀ v H' g', Sim pg.K g' h' H' → Pres g H g' H' → VlR pg.K g' x v → Q v H'
      | .ex e h' => ∀ cls dx H' g', Sim pg.K g' h' H' → Pres g H g' H' → ErR pg e cls dx H' g' → E cls dx H'
      | .no => False) →
    codeAny (model pg.P pg.w) A (.call (.ref f) args) (CR (L2.CX pg.P pg.w) outer pg.P pg.w H s Q E) s

/-- the built-in names that the reader knows -/
def bNames : List Str := ["len", "abs", "min", "max", "sum", "int", "str", "repr", "tuple", "list", "all", "any", "sorted", "isinstance", "range", "enumerate", "zip", "bool", "dict"]

structure GX (X : Cx) (c : Cd) (pg : Pg) (tb : Tb) (G : Nat → Option PyData) (C : Cf) (n : Nat) : Prop where
  hP : X.prog = pg.P
  hw : X.w = pg.w
  hK : X.K = pg.K
  hm : X.mg = pg.mg
  hb : X.base = pg.base
  N : X.N = c.N
  nd : c.N.Nodup
  sc : X.env.scope = c.sc
  kd : c.sc.kind = .function
  fn : X.fn = c.own
  calm : X.calm = true
  po : PassesOwn (model X.prog X.w) X.A X.env X.xe
  room : Room (n + 2) X.A
  gd : X.A.guards = some []
  gl : ∀ i x, tb.gl i = some x → ∀ d, G i = some d → ∃ u v, pg.mg x = some u ∧ RelV v u ∧ Rp pg.K (fun _ => none) d v
  bt : ∀ x ∈ bNames, pg.mg x = none
  ct : ClsT pg tb
  cl : ∀ i x, tb.fn i = some x → ∃ a fd ps df us0 vs0, pg.mg x = some (.ref a) ∧ PySem.W.keepIn pg.K (.ref a) = true ∧ Binds pg.K fd ps [] ∧ FnG pg n a fd ps (C i) ∧ Binds pg.K fd ps us0 ∧ Vals vs0 us0 ∧ RpL pg.K (fun _ => none) df vs0 ∧
    ∀ xs h, C i xs h ≠ .no → xs.length = ps.length ∨ (xs.length + df.length = ps.length ∧ C i xs h = C i (xs ++ df.map .d) h)

/-! ### the text beside the terms -/
def visB (sc : Scope) (x : Str) : Bool := match sc.names.lookup x with
  | some .local => true
  | some .cell => true
  | some .free => true
  | _ => false
def plainName (x : Str) : Bool := !(x == ("__debug__" : Str)) && !(x == ("__classdict__" : Str))
def nmB (c : Cd) (i : Nat) (x : Str) : Bool := decide (c.N[i]? = some x) && visB c.sc x && plainName x
def glB (c : Cd) (x : Str) : Bool := decide (c.sc.names.lookup x = some .globalImplicit) && plainName x
def cstB : PyData → Const → Bool
  | .none, .none => true
  | .bool a, .bool b => a == b
  | .int a, .int b => a == b
  | .str a, .str b => a == b
  | _, _ => false
def biN : BI → Str
  | .len => "len"
  | .abs => "abs"
  | .min => "min"
  | .max => "max"
  | .sum => "sum"
  | .int => "int"
  | .str => "str"
  | .repr => "repr"
  | .tuple => "tuple"
  | .list => "list"
  | .all => "all"
  | .any => "any"
  | .sorted => "sorted"
def tyN : Ty → Str
  | .int => "int"
  | .str => "str"
  | .bool => "bool"
  | .tuple => "tuple"
  | .list => "list"
  | .dict => "dict"
def meN : ME → Str
  | .join => "join"
  | .split => "split"
  | .words => "split"
  | .partition => "partition"
  | .count => "count"
  | .replace => "replace"
  | .index => "index"
  | .get => "get"
def noSupA : Expr → Bool
  | .Call (.Name _ _) [] _ _ => false
  | _ => true
def noSup : Expr → Bool
  | .Call (.Name _ _) _ _ _ => false
  | _ => true
def meA : ME → Nat → Bool
  | .words, 0 => true
  | .join, 1 => true
  | .split, 1 => true
  | .partition, 1 => true
  | .count, 1 => true
  | .index, 1 => true
  | _, _ => false
def noStar : Expr → Bool
  | .Starred .. => false
  | _ => true
def noSlice : Expr → Bool
  | .Slice .. => false
  | _ => true
def noSet : Expr → Bool
  | .Set .. => false
  | _ => true
/-- a test that is tried by its value -/
def byValue : Expr → Bool
  | .UnaryOp .Not _ _ => false
  | .BoolOp .. => false
  | .IfExp .. => false
  | .Compare .. => false
  | _ => true
def isPeek : Te → Bool
  | .peek _ => true
  | _ => false
def stB (c : Cd) (i : Nat) (x : Str) : Bool := decide (c.N[i]? = some x) && (decide (c.sc.names.lookup x = some .local) || (decide (c.sc.names.lookup x = some .cell) && c.own x))
def stBs (c : Cd) : List Nat → List Expr → Bool
  | [], [] => true
  | i :: is, .Name x _ :: es => stB c i x && stBs c is es
  | _, _ => false
def tgB (c : Cd) : Tg → Expr → Bool
  | .n i, .Name x _ => stB c i x
  | .t is, .Tuple es _ _ => stBs c is es
  | _, _ => false
/-- the own names of a comprehension -/
def tgOwn : Tg → Expr → List (Str × Nat)
  | .n i, .Name x _ => [(x, i)]
  | .t is, .Tuple es _ _ => (es.zip is).filterMap fun p => match p.1 with
    | .Name x _ => some (x, p.2)
    | _ => none
  | _, _ => []
def cdC (c : Cd) (scope : Scope) : Cd := ⟨c.N, relS scope c.sc, fun x => scope.names.lookup x == some .cell⟩
def bopB : Operator → Bool
  | .Add | .Sub | .Mult | .FloorDiv | .Mod | .Pow | .BitAnd | .BitOr => true
  | _ => false

def isTt : Tg → Bool
  | .t _ => true
  | _ => false
/-- the text of a source that is walked -/
def itB (c : Cd) (oe : List Expr → Bool) (tg : Tg) (k : Mi.It) (e : Expr) : Bool := match k, e with
  | .range1, .Call (.Name x _) [a] [] _ => decide (x = ("range" : Str)) && glB c x && oe [a]
  | .range2, .Call (.Name x _) [a, b] [] _ => decide (x = ("range" : Str)) && glB c x && oe [a, b]
  | .enum, .Call (.Name x _) [a] [] _ => decide (x = ("enumerate" : Str)) && glB c x && oe [a] && isTt tg
  | .zip, .Call (.Name x _) [a, b] [] _ => decide (x = ("zip" : Str)) && glB c x && oe [a, b] && isTt tg
  | .seq, e => oe [e] && noSet e
  | _, _ => false
mutual
def okE (c : Cd) (tb : Tb) : Te → Expr → Bool
  | .cst v, .Constant k _ _ => cstB v k
  | .var i, .Name x _ => nmB c i x
  | .peek i, .Name x _ => nmB c i x
  | .glob i, .Name x _ => glB c x && decide (tb.gl i = some x)
  | .bin op a b, .BinOp a' op' b' _ => decide (op = op') && okE c tb a a' && okE c tb b b'
  | .cmp op a b, .Compare a' [op'] [b'] _ => decide (op = op') && okE c tb a a' && okE c tb b b' && noSet b'
  | .chain o1 o2 x y z, .Compare x' [p1, p2] [y', z'] _ => decide (o1 = p1) && decide (o2 = p2) && okE c tb x x' && okE c tb y y' && okE c tb z z' && noSet z'
  | .and es, .BoolOp .And es' _ => okEs c tb false es es'
  | .or es, .BoolOp .Or es' _ => okEs c tb false es es'
  | .not e, .UnaryOp .Not e' _ => okE c tb e e'
  | .ite t a b, .IfExp t' a' b' _ => okE c tb t t' && okE c tb a a' && okE c tb b b' && !isPeek a && !isPeek b
  | .neg e, .UnaryOp .USub e' _ => okE c tb e e'
  | .tup es, .Tuple es' _ _ => okEs c tb false es es'
  | .dict0, .Dict [] [] _ => true
  | .ofL l, e => okL c tb l e
  | .newl l, e => okL c tb l e
  | .ix a i, .Subscript a' i' _ => okE c tb a a' && okE c tb i i' && noSlice i'
  | .sliceF a lo, .Subscript a' (.Slice (some lo') none none _) _ => okE c tb a a' && okE c tb lo lo'
  | .sliceT a hi, .Subscript a' (.Slice none (some hi') none _) _ => okE c tb a a' && okE c tb hi hi'
  | .sliceB a lo hi, .Subscript a' (.Slice (some lo') (some hi') none _) _ => okE c tb a a' && okE c tb lo lo' && okE c tb hi hi'
  | .rev a, .Subscript a' (.Slice none none (some (.UnaryOp .USub (.Constant (.int 1) _ _) _)) _) _ => okE c tb a a'
  | .call f es, .Call (.Name x _) es' [] _ => glB c x && decide (tb.fn f = some x) && okEs c tb false es es'
  | .bi b es, .Call (.Name x _) es' [] _ => glB c x && decide (x = biN b) && okEs c tb true es es' && !es'.isEmpty
  | .isi e ts, .Call (.Name x _) [e', .Name t _] [] _ => glB c x && decide (x = ("isinstance" : Str)) && okE c tb e e' && noStar e' && (match ts with
      | [ty] => decide (t = tyN ty) && glB c t
      | _ => false)
  | .me m r es, .Call (.Attribute r' nm ap) es' [] pos => okE c tb r r' && okEs c tb false es es' && decide (nm = meN m) && noSup r' && (ap.endLine == pos.line) && meA m es'.length
  | .mkm i x e, .Call (.Name y _) [e'] [] _ => glB c y && decide (x = y) && decide (tb.cs i = some x) && tb.er x && okE c tb e e' && !isPeek e && noStar e'
  | .mkv i x f e, .Call (.Name y _) [e'] [] _ => glB c y && decide (x = y) && decide (tb.vc i = some (x, f)) && tb.er x && okE c tb e e' && !isPeek e && noStar e'
  | .ixe e y yes nay, .Call (.Name z _) [e', .Name y' _] [] _ => decide (z = ("isinstance" : Str)) && glB c z && decide (y = y') && glB c y && okE c tb e e' && !isPeek e && noStar e' && (yes.all fun x => decide (tb.is x y = some true)) && (nay.all fun x => decide (tb.is x y = some false)) && !(yes ++ nay).isEmpty
  | .attr e i x f, .Attribute e' f' _ => decide (f = f') && okE c tb e e' && !isPeek e && noSupA e' && decide (tb.vc i = some (x, f)) && tb.er x
  | _, _ => false
def okEs (c : Cd) (tb : Tb) (pk : Bool) : List Te → List Expr → Bool
  | [], [] => true
  | e :: es, e' :: es' => okE c tb e e' && (pk || !isPeek e) && noStar e' && okEs c tb pk es es'
  | _, _ => false
def okL (c : Cd) (tb : Tb) : Tl → Expr → Bool
  | .disp es, .List es' _ => okEs c tb false es es'
  | .cat a b, .BinOp a' .Add b' _ => okE c tb a a' && okE c tb b b'
  | .comp elt tg k es cs, .ListComp elt' [⟨tg', it', ifs', 0⟩] scope _ => blkC c.N c.sc scope (tgOwn tg tg') && tgB (cdC c scope) tg tg' && decide ((tgOwn tg tg').map (·.2) = tg.names) &&
      itB c (okEs c tb false es) tg k it' &&
      okCs (cdC c scope) tb cs ifs' && okE (cdC c scope) tb elt elt' && !isPeek elt
  | _, _ => false
def okCs (c : Cd) (tb : Tb) : List Te → List Expr → Bool
  | [], [] => true
  | [e], [e'] => okE c tb e e'
  | _, _ => false
end
end Mi
/-! Mi: expressions: what the reader finds is what the program gives. -/
namespace Mi
open PySem PySem.Spec PyProof.Rows L2

theorem star_cons {e : Expr} {es : List Expr} {env : Env} (h : noStar e = true) : starEach (e :: es) env = (false, eval e env) :: starEach es env := by
  cases e <;> first | rfl | cases h
def noStars : List Expr → Bool
  | [] => true
  | e :: es => noStar e && noStars es
theorem star_any {pos : Pos} {env : Env} : ∀ {es : List Expr}, noStars es = true → (backTo pos (starEach es env)).any (·.1) = false
  | [], _ => rfl
  | e :: es, h => by
    rw [noStars, Bool.and_eq_true] at h
    rw [star_cons h.1]
    show ((backTo pos ((false, eval e env) :: starEach es env)).any _) = _
    unfold backTo
    rw [List.map_cons, List.any_cons]
    exact star_any h.2
theorem plainIx_of {e : Expr} (h : noSlice e = true) : PlainIx e := by
  cases e <;> first | exact fun _ _ => rfl | cases h
theorem mark_of {op : CmpOp} {e : Expr} (h : noSet e = true) : behindInMarks op e = false := by
  cases e <;> first | rfl | cases h
theorem byVal_of {e : Expr} {env : Env} (h : byValue e = true) (whole : Sem Value) : isTrue e env whole = (do let v ← whole; standAt e.pos; holding [v] (truthy v)) := by
  cases e <;> first | rfl | (rename_i op _ _; cases op <;> first | rfl | cases h) | cases h
theorem folded_of {e : Expr} {env : Env} (h : noSet e = true) (x : Value) : foldedSetIterable e env x = pure x := by
  cases e <;> first | rfl | cases h

section
variable {pg : Pg} {tb : Tb} {G : Nat → Option PyData} {C : Cf} {n : Nat} {X : Cx} {c : Cd} {g : Gh} {H : Hp} {σ : Sg} {h : Sh} {env : En}

theorem GX.vis (gx : GX X c pg tb G C n) {x : Str} (v : visB c.sc x = true) : Vis X.env.scope x := by
  rw [gx.sc]
  unfold visB at v
  unfold Vis
  revert v
  cases e : c.sc.names.lookup x with
  | none => intro v; cases v
  | some k => cases k <;> intro v <;> first | exact .inl rfl | exact .inr (.inl rfl) | exact .inr (.inr rfl) | cases v
theorem GX.gl' (gx : GX X c pg tb G C n) {x : Str} (v : c.sc.names.lookup x = some .globalImplicit) : Gl X x := by
  show X.env.scope.names.lookup x = _
  rw [gx.sc]; exact v
theorem plain_dbg {x : Str} (v : plainName x = true) : (x == ("__debug__" : Str)) = false ∧ (x == ("__classdict__" : Str)) = false := by
  unfold plainName at v
  simpa using v
theorem glB_of {x : Str} (v : glB c x = true) : c.sc.names.lookup x = some .globalImplicit ∧ (x == ("__debug__" : Str)) = false := by
  unfold glB at v
  rw [Bool.and_eq_true] at v
  exact ⟨of_decide_eq_true v.1, (plain_dbg v.2).1⟩

def RelP (K : PySem.W.Frag) (p : Te) : Gh → Hp → Vl → V → Prop := if isPeek p then PkRel K else VlRel K
theorem RelP.pk {K : PySem.W.Frag} {p : Te} {g : Gh} {H : Hp} {x : Vl} {v : V} (r : RelP K p g H x v) : PkR K g H x v := by
  unfold RelP at r
  split at r
  · exact r
  · exact .inl r
theorem RelP.vl {K : PySem.W.Frag} {p : Te} {g : Gh} {H : Hp} {x : Vl} {v : V} (hp : isPeek p = false) (r : RelP K p g H x v) : VlR K g x v := by
  unfold RelP at r
  rw [hp] at r
  exact r
theorem SR.toP {p : Te} (hp : isPeek p = false) {r : R Vl} {w : (V → Hp → Prop) → Prop} (q : SR pg X σ g H (VlRel pg.K) r w) : SR pg X σ g H (RelP pg.K p) r w := by
  unfold RelP
  rw [hp]
  exact q

/-- a test, from the value -/
theorem test_of {e : Expr} {r : R Vl} {Rl : Gh → Hp → Vl → V → Prop} (gx : GX X c pg tb G C n) (hv : byValue e = true) (hpk : ∀ g H x v, Rl g H x v → PkR pg.K g H x v) (q : SR pg X σ g H Rl r (wE X e σ H)) :
    SR pg X σ g H (fun _ _ (a b : Bool) => a = b) (tru r) (wT X e σ H) := by
  unfold tru
  refine SR.bind (w2 := fun v H1 Q => ∃ k, TruV X.K v H1 k ∧ Q k H1) q (fun Q hq => wT_of (pt_truth pe_w (byVal_of hv)) hq) fun x h1 v H1 g1 e1 s1 p1 r1 => ?_
  cases e : truV x with
  | none => exact trivial
  | some b => exact fun Q hQ => ⟨b, tru_V gx.hK s1 (hpk _ _ _ _ r1) e, hQ b H1 g1 s1 Pres.refl rfl⟩

/-! ### the constructs -/
theorem hu_of (gx : GX X c pg tb G C n) : X.A.units + 65 < cLine := by have := gx.room.un; omega
theorem SE.bin {op : Operator} {a b : Te} {ea eb : Expr} {pos : Pos} {Ra Rb : Gh → Hp → Vl → V → Prop} (gx : GX X c pg tb G C n) (ha : ∀ g H x v, Ra g H x v → PkR pg.K g H x v) (hb : ∀ g H x v, Rb g H x v → PkR pg.K g H x v)
    (q1 : SR pg X σ g H Ra (evE C G a env h) (wE X ea σ H)) (q2 : ∀ h1 g1 H1, Sim pg.K g1 h1 H1 → Pres g H g1 H1 → SR pg X σ g1 H1 Rb (evE C G b env h1) (wE X eb σ H1)) :
    SR pg X σ g H (VlRel pg.K) (evE C G (.bin op a b) env h) (wE X (.BinOp ea op eb pos) σ H) := by
  rw [evE]
  refine SR.bind (w2 := fun x H1 Q => wE X eb σ H1 fun y H2 => ∀ σ, wO X (binaryOp op) σ x y H2 Q) q1 (fun Q hq => wE_of (pe_op opR_w pe_w pe_w) hq) fun x h1 v H1 g1 _ s1 p1 r1 => ?_
  refine SR.bind (w2 := fun y H2 Q => ∀ σ, wO X (binaryOp op) σ v y H2 Q) (q2 h1 g1 H1 s1 p1) (fun _ hq => hq) fun y h2 u H2 g2 _ s2 p2 r2 => ?_
  have rx := (ha _ _ _ _ r1).mono p2
  have ry := hb _ _ _ _ r2
  cases x with
  | d x =>
    cases y with
    | d y => exact SR.lift fun z e Q hQ σ => bin_ok gx.hK s2 rx ry e hQ
    | _ => exact trivial
  | _ => exact trivial
/-- a comparison, as a value and as a test -/
theorem SE.cmp {op : CmpOp} {a b : Te} {ea eb : Expr} {pos : Pos} {Ra Rb : Gh → Hp → Vl → V → Prop} (gx : GX X c pg tb G C n) (hs : noSet eb = true) (ha : ∀ g H x v, Ra g H x v → PkR pg.K g H x v) (hb : ∀ g H x v, Rb g H x v → PkR pg.K g H x v)
    (q1 : SR pg X σ g H Ra (evE C G a env h) (wE X ea σ H)) (q2 : ∀ h1 g1 H1, Sim pg.K g1 h1 H1 → Pres g H g1 H1 → SR pg X σ g1 H1 Rb (evE C G b env h1) (wE X eb σ H1)) :
    SR pg X σ g H (VlRel pg.K) (evE C G (.cmp op a b) env h) (wE X (.Compare ea [op] [eb] pos) σ H) ∧
    SR pg X σ g H (fun _ _ (a b : Bool) => a = b) (tru (evE C G (.cmp op a b) env h)) (wT X (.Compare ea [op] [eb] pos) σ H) := by
  rw [evE]
  constructor
  · refine SR.bind (w2 := fun x H1 Q => wE X eb σ H1 fun y H2 => ∀ σ, wO X (compareOp op) σ x y H2 Q) q1 (fun Q hq => wE_of (pe_cmpR opR_w pe_w pe_w (mark_of hs)) hq) fun x h1 v H1 g1 _ s1 p1 r1 => ?_
    refine SR.bind (w2 := fun y H2 Q => ∀ σ, wO X (compareOp op) σ v y H2 Q) (q2 h1 g1 H1 s1 p1) (fun _ hq => hq) fun y h2 u H2 g2 _ s2 p2 r2 => ?_
    have rx := (ha _ _ _ _ r1).mono p2
    have ry := hb _ _ _ _ r2
    cases x with
    | d x =>
      cases y with
      | d y =>
        refine SR.lift fun z e Q hQ σ => ?_
        obtain ⟨b, e1, rfl⟩ := Option.map_eq_some_iff.mp e
        exact cmp_ok gx.hK (hu_of gx) s2 rx ry e1 (ok_bl s2 hQ)
      | _ => exact trivial
    | _ => exact trivial
  · have : ∀ {r : R Vl} {f : Vl → Sh → R Vl}, tru (r.bind f) = r.bind fun x h => tru (f x h) := fun {r f} => by cases r <;> rfl
    rw [this]
    refine SR.bind (w2 := fun x H1 Q => wE X eb σ H1 fun y H2 => ∀ σ, wO X (compareOp op) σ x y H2 fun z H3 => ∃ k, z = .bl k ∧ Q k H3) q1 (fun Q hq => wT_of (pt_cmpR opR_w pe_w pe_w (mark_of hs)) hq) fun x h1 v H1 g1 _ s1 p1 r1 => ?_
    rw [this]
    refine SR.bind (w2 := fun y H2 Q => ∀ σ, wO X (compareOp op) σ v y H2 fun z H3 => ∃ k, z = .bl k ∧ Q k H3) (q2 h1 g1 H1 s1 p1) (fun _ hq => hq) fun y h2 u H2 g2 _ s2 p2 r2 => ?_
    have rx := (ha _ _ _ _ r1).mono p2
    have ry := hb _ _ _ _ r2
    cases x with
    | d x =>
      cases y with
      | d y =>
        dsimp only
        cases e : cmpD op x y with
        | none => exact trivial
        | some b => exact fun Q hQ σ => cmp_ok gx.hK (hu_of gx) s2 rx ry e ⟨b, rfl, hQ b H2 g2 s2 Pres.refl rfl⟩
      | _ => exact trivial
    | _ => exact trivial

theorem tru_bind {α : Type} {r : R α} {f : α → Sh → R Vl} : tru (r.bind f) = r.bind fun x h => tru (f x h) := by cases r <;> rfl
theorem lastMk {op op' : CmpOp} {a b : Expr} (hs : noSet b = true) : lastMarks [op, op'] [a, b] = false := by
  show lastMarks [op'] [b] = false
  exact mark_of hs
theorem SE.chain {o1 o2 : CmpOp} {a b d : Te} {ea eb ed : Expr} {pos : Pos} {Ra Rb Rd : Gh → Hp → Vl → V → Prop} (gx : GX X c pg tb G C n) (hs : noSet ed = true) (ha : ∀ g H x v, Ra g H x v → PkR pg.K g H x v) (hb : ∀ g H x v, Rb g H x v → PkR pg.K g H x v) (hd : ∀ g H x v, Rd g H x v → PkR pg.K g H x v)
    (q1 : SR pg X σ g H Ra (evE C G a env h) (wE X ea σ H)) (q2 : ∀ h1 g1 H1, Sim pg.K g1 h1 H1 → Pres g H g1 H1 → SR pg X σ g1 H1 Rb (evE C G b env h1) (wE X eb σ H1)) (q3 : ∀ h1 g1 H1, Sim pg.K g1 h1 H1 → Pres g H g1 H1 → SR pg X σ g1 H1 Rd (evE C G d env h1) (wE X ed σ H1)) :
    SR pg X σ g H (VlRel pg.K) (evE C G (.chain o1 o2 a b d) env h) (wE X (.Compare ea [o1, o2] [eb, ed] pos) σ H) ∧
    SR pg X σ g H (fun _ _ (a b : Bool) => a = b) (tru (evE C G (.chain o1 o2 a b d) env h)) (wT X (.Compare ea [o1, o2] [eb, ed] pos) σ H) := by
  rw [evE]
  constructor
  · refine SR.bind (w2 := fun x H1 Q => wE X eb σ H1 fun y H2 => ∀ σ', wO X (compareOp o1) σ' x y H2 fun z H3 => ∃ k, z = .bl k ∧ if k = true then wE X ed σ H3 fun w H4 => ∀ σ, wO X (compareOp o2) σ y w H4 Q else Q (.bl false) H3) q1
      (fun Q hq => wE_of (pe_chain opR_w opR_w pe_w pe_w pe_w (lastMk hs)) hq) fun x h1 v H1 g1 _ s1 p1 r1 => ?_
    refine SR.bind (w2 := fun y H2 Q => ∀ σ', wO X (compareOp o1) σ' v y H2 fun z H3 => ∃ k, z = .bl k ∧ if k = true then wE X ed σ H3 fun w H4 => ∀ σ, wO X (compareOp o2) σ y w H4 Q else Q (.bl false) H3) (q2 h1 g1 H1 s1 p1) (fun _ hq => hq) fun y h2 u H2 g2 _ s2 p2 r2 => ?_
    have rx := (ha _ _ _ _ r1).mono p2
    have ry := hb _ _ _ _ r2
    cases x with
    | d x =>
      cases y with
      | d y =>
        dsimp only
        cases e : cmpD o1 x y with
        | none => exact trivial
        | some k =>
          cases k with
          | false => exact fun Q hQ σ' => cmp_ok gx.hK (hu_of gx) s2 rx ry e ⟨false, rfl, ok_bl s2 hQ⟩
          | true =>
            have q := q3 h2 g2 H2 s2 (p1.trans p2)
            have fin : SR pg X σ g2 H2 (VlRel pg.K) ((evE C G d env h2).bind fun z h3 => match z with
                | .d z => lift ((cmpD o2 y z).map .bool) h3
                | _ => .no) (fun Q => wE X ed σ H2 fun w H4 => ∀ σ, wO X (compareOp o2) σ u w H4 Q) := by
              refine SR.bind (w2 := fun w H4 Q => ∀ σ, wO X (compareOp o2) σ u w H4 Q) q (fun _ hq => hq) fun z h3 t H3 g3 _ s3 p3 r3 => ?_
              cases z with
              | d z =>
                refine SR.lift fun z' e' Q hQ σ => ?_
                obtain ⟨b', e1, rfl⟩ := Option.map_eq_some_iff.mp e'
                exact cmp_ok gx.hK (hu_of gx) s3 (ry.mono p3) (hd _ _ _ _ r3) e1 (ok_bl s3 hQ)
              | _ => exact trivial
            exact fin.imp fun Q hq σ' => cmp_ok gx.hK (hu_of gx) s2 rx ry e ⟨true, rfl, hq⟩
      | _ => exact trivial
    | _ => exact trivial
  · rw [tru_bind]
    refine SR.bind (w2 := fun x H1 Q => wE X eb σ H1 fun y H2 => ∀ σ', wO X (compareOp o1) σ' x y H2 fun z H3 => ∃ k, z = .bl k ∧ if k = true then wE X ed σ H3 fun w H4 => ∀ σ, wO X (compareOp o2) σ y w H4 fun z H5 => ∃ k, z = .bl k ∧ Q k H5 else (∃ k, V.bl false = .bl k ∧ Q k H3)) q1
      (fun Q hq => wT_of (pt_chain opR_w opR_w pe_w pe_w pe_w (lastMk hs)) hq) fun x h1 v H1 g1 _ s1 p1 r1 => ?_
    rw [tru_bind]
    refine SR.bind (w2 := fun y H2 Q => ∀ σ', wO X (compareOp o1) σ' v y H2 fun z H3 => ∃ k, z = .bl k ∧ if k = true then wE X ed σ H3 fun w H4 => ∀ σ, wO X (compareOp o2) σ y w H4 fun z H5 => ∃ k, z = .bl k ∧ Q k H5 else (∃ k, V.bl false = .bl k ∧ Q k H3)) (q2 h1 g1 H1 s1 p1) (fun _ hq => hq) fun y h2 u H2 g2 _ s2 p2 r2 => ?_
    have rx := (ha _ _ _ _ r1).mono p2
    have ry := hb _ _ _ _ r2
    cases x with
    | d x =>
      cases y with
      | d y =>
        dsimp only
        cases e : cmpD o1 x y with
        | none => exact trivial
        | some k =>
          cases k with
          | false => exact fun Q hQ σ' => cmp_ok gx.hK (hu_of gx) s2 rx ry e ⟨false, rfl, false, rfl, hQ false H2 g2 s2 Pres.refl rfl⟩
          | true =>
            have q := q3 h2 g2 H2 s2 (p1.trans p2)
            have fin : SR pg X σ g2 H2 (fun _ _ (a b : Bool) => a = b) (tru ((evE C G d env h2).bind fun z h3 => match z with
                | .d z => lift ((cmpD o2 y z).map .bool) h3
                | _ => .no)) (fun Q => wE X ed σ H2 fun w H4 => ∀ σ, wO X (compareOp o2) σ u w H4 fun z H5 => ∃ k, z = .bl k ∧ Q k H5) := by
              rw [tru_bind]
              refine SR.bind (w2 := fun w H4 Q => ∀ σ, wO X (compareOp o2) σ u w H4 fun z H5 => ∃ k, z = .bl k ∧ Q k H5) q (fun _ hq => hq) fun z h3 t H3 g3 _ s3 p3 r3 => ?_
              cases z with
              | d z =>
                dsimp only
                cases e' : cmpD o2 y z with
                | none => exact trivial
                | some b' => exact fun Q hQ σ => cmp_ok gx.hK (hu_of gx) s3 (ry.mono p3) (hd _ _ _ _ r3) e' ⟨b', rfl, hQ b' H3 g3 s3 Pres.refl rfl⟩
              | _ => exact trivial
            exact fin.imp fun Q hq σ' => cmp_ok gx.hK (hu_of gx) s2 rx ry e ⟨true, rfl, hq⟩
      | _ => exact trivial
    | _ => exact trivial
theorem SE.not {e : Te} {ee : Expr} {pos : Pos} {Ra : Gh → Hp → Vl → V → Prop} (gx : GX X c pg tb G C n) (ha : ∀ g H x v, Ra g H x v → PkR pg.K g H x v)
    (q1 : SR pg X σ g H Ra (evE C G e env h) (wE X ee σ H)) (q2 : SR pg X σ g H (fun _ _ (a b : Bool) => a = b) (tru (evE C G e env h)) (wT X ee σ H)) :
    SR pg X σ g H (VlRel pg.K) (evE C G (.not e) env h) (wE X (.UnaryOp .Not ee pos) σ H) ∧
    SR pg X σ g H (fun _ _ (a b : Bool) => a = b) (tru (evE C G (.not e) env h)) (wT X (.UnaryOp .Not ee pos) σ H) := by
  constructor
  · rw [evE]
    refine SR.bind (w2 := fun x H1 (Q : VK) => ∃ k, TruV X.K x H1 k ∧ Q (V.bl (!k)) H1) q1 (fun Q hq => wE_of (pe_notT pe_w) hq) fun x h1 v H1 g1 _ s1 p1 r1 => ?_
    cases t : truV x with
    | none => exact trivial
    | some b => exact fun Q hQ => ⟨b, tru_V gx.hK s1 (ha _ _ _ _ r1) t, ok_bl s1 hQ⟩
  · have e1 : tru (evE C G (.not e) env h) = (tru (evE C G e env h)).bind fun b h1 => .ok (!b) h1 := by
      rw [evE, tru_bind]
      unfold tru
      cases evE C G e env h with
      | no => rfl
      | ex _ _ => rfl
      | ok x h1 =>
        show (match truV x with | some b => R.ok (Vl.d (.bool (!b))) h1 | none => .no).bind _ = _
        show _ = R.bind (match truV x with | some b => R.ok b h1 | none => .no) _
        cases truV x <;> rfl
    rw [e1]
    refine SR.bind (w2 := fun b H1 Q => Q (!b) H1) q2 (fun Q hq => wT_of (pt_not pt_w) hq) fun b h1 v H1 g1 _ s1 p1 r1 => ?_
    subst r1
    exact fun Q hQ => hQ _ H1 g1 s1 Pres.refl rfl
theorem SE.ite {t a b : Te} {et ea eb : Expr} {pos : Pos}
    (q1 : SR pg X σ g H (fun _ _ (a b : Bool) => a = b) (tru (evE C G t env h)) (wT X et σ H))
    (q2 : ∀ h1 g1 H1, Sim pg.K g1 h1 H1 → Pres g H g1 H1 → SR pg X σ g1 H1 (VlRel pg.K) (evE C G a env h1) (wE X ea σ H1) ∧ SR pg X σ g1 H1 (fun _ _ (a b : Bool) => a = b) (tru (evE C G a env h1)) (wT X ea σ H1))
    (q3 : ∀ h1 g1 H1, Sim pg.K g1 h1 H1 → Pres g H g1 H1 → SR pg X σ g1 H1 (VlRel pg.K) (evE C G b env h1) (wE X eb σ H1) ∧ SR pg X σ g1 H1 (fun _ _ (a b : Bool) => a = b) (tru (evE C G b env h1)) (wT X eb σ H1)) :
    SR pg X σ g H (VlRel pg.K) (evE C G (.ite t a b) env h) (wE X (.IfExp et ea eb pos) σ H) ∧
    SR pg X σ g H (fun _ _ (a b : Bool) => a = b) (tru (evE C G (.ite t a b) env h)) (wT X (.IfExp et ea eb pos) σ H) := by
  have e1 : evE C G (.ite t a b) env h = (tru (evE C G t env h)).bind fun k h1 => if k = true then evE C G a env h1 else evE C G b env h1 := by
    rw [evE]
    unfold tru
    cases evE C G t env h with
    | no => rfl
    | ex _ _ => rfl
    | ok x h1 =>
      show (match truV x with | some true => evE C G a env h1 | some false => evE C G b env h1 | none => .no) = R.bind (match truV x with | some b => R.ok b h1 | none => .no) _
      cases truV x with
      | none => rfl
      | some k => cases k <;> rfl
  rw [e1]
  constructor
  · refine SR.bind (w2 := fun k H1 Q => if k = true then wE X ea σ H1 Q else wE X eb σ H1 Q) q1 (fun Q hq => wE_of (pe_ifExp pt_w pe_w pe_w) hq) fun k h1 v H1 g1 _ s1 p1 r1 => ?_
    subst r1
    cases k with
    | true => exact (q2 h1 g1 H1 s1 p1).1
    | false => exact (q3 h1 g1 H1 s1 p1).1
  · rw [tru_bind]
    refine SR.bind (w2 := fun k H1 Q => if k = true then wT X ea σ H1 Q else wT X eb σ H1 Q) q1 (fun Q hq => ?_) fun k h1 v H1 g1 _ s1 p1 r1 => ?_
    · intro pins s I
      refine isTrue_IfExp (thn (hq pins s I) fun k s1 ⟨H1, I1, q⟩ => ?_)
      cases k with
      | true => exact q pins s1 I1
      | false => exact q pins s1 I1
    · subst r1
      cases k with
      | true => exact (q2 h1 g1 H1 s1 p1).2
      | false => exact (q3 h1 g1 H1 s1 p1).2
theorem SE.neg {e : Te} {ee : Expr} {pos : Pos} {Ra : Gh → Hp → Vl → V → Prop} (ha : ∀ g H x v, Ra g H x v → PkR pg.K g H x v)
    (q1 : SR pg X σ g H Ra (evE C G e env h) (wE X ee σ H)) : SR pg X σ g H (VlRel pg.K) (evE C G (.neg e) env h) (wE X (.UnaryOp .USub ee pos) σ H) := by
  rw [evE]
  refine SR.bind (w2 := fun x H1 (Q : VK) => ∃ i, x = V.int i ∧ Q (V.int (-i)) H1) q1 (fun Q hq => wE_of (pe_un un_neg pe_w) hq) fun x h1 v H1 g1 _ s1 p1 r1 => ?_
  split
  · exact fun Q hQ => ⟨_, PkD.int (ha _ _ _ _ r1), ok_int s1 hQ⟩
  · exact trivial
theorem SE.ix {a i : Te} {ea ei : Expr} {pos : Pos} {Ra Rb : Gh → Hp → Vl → V → Prop} (gx : GX X c pg tb G C n) (hs : noSlice ei = true) (ha : ∀ g H x v, Ra g H x v → PkR pg.K g H x v) (hb : ∀ g H x v, Rb g H x v → PkR pg.K g H x v)
    (q1 : SR pg X σ g H Ra (evE C G a env h) (wE X ea σ H)) (q2 : ∀ h1 g1 H1, Sim pg.K g1 h1 H1 → Pres g H g1 H1 → SR pg X σ g1 H1 Rb (evE C G i env h1) (wE X ei σ H1)) :
    SR pg X σ g H (VlRel pg.K) (evE C G (.ix a i) env h) (wE X (.Subscript ea ei pos) σ H) := by
  rw [evE]
  refine SR.bind (w2 := fun x H1 Q => wE X ei σ H1 fun y H2 => ∀ σ, wX X σ x y H2 Q) q1 (fun Q hq => wE_of (pe_ix ixR_w pe_w pe_w (plainIx_of hs)) hq) fun x h1 v H1 g1 _ s1 p1 r1 => ?_
  refine SR.bind (w2 := fun y H2 Q => ∀ σ, wX X σ v y H2 Q) (q2 h1 g1 H1 s1 p1) (fun _ hq => hq) fun y h2 u H2 g2 _ s2 p2 r2 => ?_
  exact SR.lift fun z e Q hQ σ => ix_ok gx.hK s2 ((ha _ _ _ _ r1).mono p2) (hb _ _ _ _ r2) e hQ
theorem SE.sliceF {a i : Te} {ea ei : Expr} {pos p2 : Pos} {Ra Rb : Gh → Hp → Vl → V → Prop} (gx : GX X c pg tb G C n) (ha : ∀ g H x v, Ra g H x v → PkR pg.K g H x v) (hb : ∀ g H x v, Rb g H x v → PkR pg.K g H x v)
    (q1 : SR pg X σ g H Ra (evE C G a env h) (wE X ea σ H)) (q2 : ∀ h1 g1 H1, Sim pg.K g1 h1 H1 → Pres g H g1 H1 → SR pg X σ g1 H1 Rb (evE C G i env h1) (wE X ei σ H1)) :
    SR pg X σ g H (VlRel pg.K) (evE C G (.sliceF a i) env h) (wE X (.Subscript ea (.Slice (some ei) none none p2) pos) σ H) := by
  rw [evE]
  refine SR.bind (w2 := fun x H1 Q => wE X ei σ H1 fun y H2 => ∃ i, y = .int i ∧ ∀ σ, wSl X σ x (some i) none H2 Q) q1 (fun Q hq => wE_of (pe_slice slR_w pe_w (po_some pe_w) po_none) hq) fun x h1 v H1 g1 _ s1 p1 r1 => ?_
  refine SR.bind (w2 := fun y H2 Q => ∃ i, y = .int i ∧ ∀ σ, wSl X σ v (some i) none H2 Q) (q2 h1 g1 H1 s1 p1) (fun _ hq => hq) fun y h2 u H2 g2 _ s2 p2 r2 => ?_
  have rx := (ha _ _ _ _ r1).mono p2
  split
  · exact SR.lift fun z e Q hQ => ⟨_, PkD.int (hb _ _ _ _ r2), fun σ => slice_ok gx.hK s2 rx e hQ⟩
  · exact trivial
theorem SE.sliceT {a i : Te} {ea ei : Expr} {pos p2 : Pos} {Ra Rb : Gh → Hp → Vl → V → Prop} (gx : GX X c pg tb G C n) (ha : ∀ g H x v, Ra g H x v → PkR pg.K g H x v) (hb : ∀ g H x v, Rb g H x v → PkR pg.K g H x v)
    (q1 : SR pg X σ g H Ra (evE C G a env h) (wE X ea σ H)) (q2 : ∀ h1 g1 H1, Sim pg.K g1 h1 H1 → Pres g H g1 H1 → SR pg X σ g1 H1 Rb (evE C G i env h1) (wE X ei σ H1)) :
    SR pg X σ g H (VlRel pg.K) (evE C G (.sliceT a i) env h) (wE X (.Subscript ea (.Slice none (some ei) none p2) pos) σ H) := by
  rw [evE]
  refine SR.bind (w2 := fun x H1 Q => wE X ei σ H1 fun y H2 => ∃ i, y = .int i ∧ ∀ σ, wSl X σ x none (some i) H2 Q) q1 (fun Q hq => wE_of (pe_slice slR_w pe_w po_none (po_some pe_w)) hq) fun x h1 v H1 g1 _ s1 p1 r1 => ?_
  refine SR.bind (w2 := fun y H2 Q => ∃ i, y = .int i ∧ ∀ σ, wSl X σ v none (some i) H2 Q) (q2 h1 g1 H1 s1 p1) (fun _ hq => hq) fun y h2 u H2 g2 _ s2 p2 r2 => ?_
  have rx := (ha _ _ _ _ r1).mono p2
  split
  · exact SR.lift fun z e Q hQ => ⟨_, PkD.int (hb _ _ _ _ r2), fun σ => slice_ok gx.hK s2 rx e hQ⟩
  · exact trivial
theorem SE.sliceB {a i j : Te} {ea ei ej : Expr} {pos p2 : Pos} {Ra Rb Rc : Gh → Hp → Vl → V → Prop} (gx : GX X c pg tb G C n) (ha : ∀ g H x v, Ra g H x v → PkR pg.K g H x v) (hb : ∀ g H x v, Rb g H x v → PkR pg.K g H x v) (hc : ∀ g H x v, Rc g H x v → PkR pg.K g H x v)
    (q1 : SR pg X σ g H Ra (evE C G a env h) (wE X ea σ H)) (q2 : ∀ h1 g1 H1, Sim pg.K g1 h1 H1 → Pres g H g1 H1 → SR pg X σ g1 H1 Rb (evE C G i env h1) (wE X ei σ H1)) (q3 : ∀ h1 g1 H1, Sim pg.K g1 h1 H1 → Pres g H g1 H1 → SR pg X σ g1 H1 Rc (evE C G j env h1) (wE X ej σ H1)) :
    SR pg X σ g H (VlRel pg.K) (evE C G (.sliceB a i j) env h) (wE X (.Subscript ea (.Slice (some ei) (some ej) none p2) pos) σ H) := by
  rw [evE]
  refine SR.bind (w2 := fun x H1 Q => wE X ei σ H1 fun y H2 => ∃ i, y = .int i ∧ wE X ej σ H2 fun z H3 => ∃ j, z = .int j ∧ ∀ σ, wSl X σ x (some i) (some j) H3 Q) q1 (fun Q hq => wE_of (pe_slice slR_w pe_w (po_some pe_w) (po_some pe_w)) hq) fun x h1 v H1 g1 _ s1 p1 r1 => ?_
  refine SR.bind (w2 := fun y H2 Q => ∃ i, y = .int i ∧ wE X ej σ H2 fun z H3 => ∃ j, z = .int j ∧ ∀ σ, wSl X σ v (some i) (some j) H3 Q) (q2 h1 g1 H1 s1 p1) (fun _ hq => hq) fun y h2 u H2 g2 _ s2 p2 r2 => ?_
  have q := q3 h2 g2 H2 s2 (p1.trans p2)
  split
  · rename_i k _
    refine SR.imp (w := fun Q => wE X ej σ H2 fun z H3 => ∃ j, z = .int j ∧ ∀ σ, wSl X σ v (some k) (some j) H3 Q) ?_ fun Q hq => ⟨k, PkD.int (hb _ _ _ _ r2), hq⟩
    refine SR.bind (w2 := fun z H3 Q => ∃ j, z = .int j ∧ ∀ σ, wSl X σ v (some k) (some j) H3 Q) q (fun _ hq => hq) fun z h3 t H3 g3 _ s3 p3 r3 => ?_
    have rx := ((ha _ _ _ _ r1).mono p2).mono p3
    split
    · exact SR.lift fun z e Q hQ => ⟨_, PkD.int (hc _ _ _ _ r3), fun σ => slice_ok gx.hK s3 rx e hQ⟩
    · exact trivial
  · exact trivial

/-! ### names, displays -/
theorem SE.cst {v : PyData} {k : Const} {j : Nat} {pos : Pos} (s : Sim pg.K g h H) (ok : cstB v k = true) : SR pg X σ g H (VlRel pg.K) (evE C G (.cst v) env h) (wE X (.Constant k j pos) σ H) := by
  rw [evE]
  intro Q hQ
  unfold cstB at ok
  split at ok
  · exact wE_of pe_non (hQ _ _ _ s Pres.refl (by simp only [VlRel, VlR, Rp]))
  · cases eq_of_beq ok; exact wE_of pe_bl (ok_bl s hQ)
  · cases eq_of_beq ok; exact wE_of pe_int (ok_int s hQ)
  · cases eq_of_beq ok; exact wE_of pe_str (ok_str s hQ)
  · cases ok
theorem nmB_of {i : Nat} {x : Str} (ok : nmB c i x = true) : c.N[i]? = some x ∧ visB c.sc x = true ∧ (x == ("__debug__" : Str)) = false ∧ (x == ("__classdict__" : Str)) = false := by
  unfold nmB at ok
  rw [Bool.and_eq_true, Bool.and_eq_true] at ok
  exact ⟨of_decide_eq_true ok.1.1, ok.1.2, plain_dbg ok.2⟩
theorem SE.var {i : Nat} {x : Str} {pos : Pos} (gx : GX X c pg tb G C n) (s : Sim pg.K g h H) (r : EnR pg.K g H env σ) (ok : nmB c i x = true) : SR pg X σ g H (VlRel pg.K) (evE C G (.var i) env h) (wE X (.Name x pos) σ H) := by
  rw [evE]
  obtain ⟨o1, o2, o3, o4⟩ := nmB_of ok
  split
  · rename_i y e
    obtain ⟨o, e1, v, rfl, q⟩ := r.at_ i _ e
    exact fun Q hQ => wE_of (pe_var (by rw [gx.N]; exact o1) (gx.vis o2) o3 o4) ⟨v, e1, hQ v H g s Pres.refl q⟩
  · exact trivial
theorem SE.peek {i : Nat} {x : Str} {pos : Pos} (gx : GX X c pg tb G C n) (s : Sim pg.K g h H) (r : EnR pg.K g H env σ) (ok : nmB c i x = true) : SR pg X σ g H (PkRel pg.K) (evE C G (.peek i) env h) (wE X (.Name x pos) σ H) := by
  rw [evE]
  obtain ⟨o1, o2, o3, o4⟩ := nmB_of ok
  split
  · rename_i y e
    obtain ⟨o, e1, v, rfl, q⟩ := r.at_ i _ e
    exact fun Q hQ => wE_of (pe_var (by rw [gx.N]; exact o1) (gx.vis o2) o3 o4) ⟨v, e1, hQ v H g s Pres.refl (.inl q)⟩
  · rename_i xs e
    obtain ⟨o, e1, a, vs, rfl, hH, z, ni, q⟩ := r.at_ i _ e
    exact fun Q hQ => wE_of (pe_var (by rw [gx.N]; exact o1) (gx.vis o2) o3 o4) ⟨_, e1, hQ _ H g s Pres.refl (.inr ⟨xs, a, vs, rfl, rfl, hH, ni, q⟩)⟩
  · exact trivial
theorem SE.glob {i : Nat} {x : Str} {pos : Pos} (gx : GX X c pg tb G C n) (s : Sim pg.K g h H) (ok : (glB c x && decide (tb.gl i = some x)) = true) : SR pg X σ g H (VlRel pg.K) (evE C G (.glob i) env h) (wE X (.Name x pos) σ H) := by
  rw [evE]
  rw [Bool.and_eq_true] at ok
  obtain ⟨o1, o2⟩ := glB_of ok.1
  refine SR.lift fun z e Q hQ => ?_
  obtain ⟨u, v, e1, ru, rp⟩ := gx.gl i x (of_decide_eq_true ok.2) z e
  exact wE_of (pe_glob (gx.gl' o1) (by rw [gx.hm]; exact e1) ru o2) (hQ v H g s Pres.refl (Rp.mono (fun _ _ (y : (none : Option HO) = some _) => by cases y) z v rp))

/-- a list of values, each by a relation -/
def AllR (Rl : Vl → V → Prop) : List Vl → List V → Prop
  | [], vs => vs = []
  | x :: xs, vs => ∃ v r, vs = v :: r ∧ Rl x v ∧ AllR Rl xs r
theorem AllR.imp {R1 R2 : Vl → V → Prop} (m : ∀ x v, R1 x v → R2 x v) : ∀ {xs : List Vl} {vs : List V}, AllR R1 xs vs → AllR R2 xs vs
  | [], _, r => r
  | x :: xs, _, ⟨v, t, e, r1, r2⟩ => ⟨v, t, e, m _ _ r1, AllR.imp m r2⟩
theorem AllR.vl {K : PySem.W.Frag} : ∀ {xs : List Vl} {vs : List V}, AllR (VlR K g) xs vs → VlRL K g xs vs
  | [], _, r => r
  | x :: xs, _, ⟨v, t, e, r1, r2⟩ => ⟨v, t, e, r1, AllR.vl r2⟩
theorem AllR.data {K : PySem.W.Frag} : ∀ {xs : List Vl} {vs : List V} {ds : List PyData}, AllR (VlR K g) xs vs → datL xs = some ds → RpL K g.Z ds vs
  | [], _, _, r, e => by
    simp only [datL, Option.some.injEq] at e
    subst e
    have r : _ = [] := r
    subst r
    exact RpL.nil
  | .d x :: xs, _, _, ⟨v, t, e1, r1, r2⟩, e => by
    simp only [datL, Option.map_eq_some_iff] at e
    obtain ⟨ys, e2, rfl⟩ := e
    subst e1
    exact RpL.cons r1 (AllR.data r2 e2)
  | .ref _ :: _, _, _, _, e => by cases e
  | .fn _ :: _, _, _, _, e => by cases e
  | .scr _ :: _, _, _, _, e => by cases e
theorem AllR.pk {K : PySem.W.Frag} : ∀ {xs : List Vl} {vs : List V} {ds : List PyData}, AllR (PkR K g H) xs vs → datL xs = some ds → PkL K g H ds vs
  | [], _, _, r, e => by
    simp only [datL, Option.some.injEq] at e
    subst e
    exact r
  | .d x :: xs, _, _, ⟨v, t, e1, r1, r2⟩, e => by
    simp only [datL, Option.map_eq_some_iff] at e
    obtain ⟨ys, e2, rfl⟩ := e
    exact ⟨v, t, e1, r1, AllR.pk r2 e2⟩
  | .ref _ :: _, _, _, _, e => by cases e
  | .fn _ :: _, _, _, _, e => by cases e
  | .scr _ :: _, _, _, _, e => by cases e
/-- arguments, from the left; pk: the frame's own lists may stand among them -/
def ArR (K : PySem.W.Frag) (pk : Bool) : Gh → Hp → List Vl → List V → Prop := fun g H xs vs => AllR (if pk = true then PkR K g H else VlR K g) xs vs
theorem ArR.mono {K : PySem.W.Frag} {pk : Bool} {g' : Gh} {H' : Hp} {xs : List Vl} {vs : List V} (p : Pres g H g' H') (r : ArR K pk g H xs vs) : ArR K pk g' H' xs vs := by
  cases pk with
  | true => exact AllR.imp (fun _ _ q => PkR.mono p q) r
  | false => exact AllR.imp (fun _ _ q => VlR.mono p q) r
theorem SA.nil {pk : Bool} (s : Sim pg.K g h H) : SR pg X σ g H (ArR pg.K pk) (evEs C G [] env h) (wA X [] σ H) := by
  rw [evEs]
  exact fun Q hQ => wA_of pa_nil (hQ [] H g s Pres.refl rfl)
theorem SA.cons {pk : Bool} {e : Te} {es : List Te} {ee : Expr} {ees : List Expr} (ns : noStar ee = true) (q1 : SR pg X σ g H (RelP pg.K e) (evE C G e env h) (wE X ee σ H)) (hp : (pk || !isPeek e) = true)
    (q2 : ∀ h1 g1 H1, Sim pg.K g1 h1 H1 → Pres g H g1 H1 → SR pg X σ g1 H1 (ArR pg.K pk) (evEs C G es env h1) (wA X ees σ H1)) : SR pg X σ g H (ArR pg.K pk) (evEs C G (e :: es) env h) (wA X (ee :: ees) σ H) := by
  rw [evEs]
  refine SR.bind (w2 := fun x H1 Q => wA X ees σ H1 fun xs H2 => Q (x :: xs) H2) q1 (fun Q hq => wA_of (pa_cons pe_w pa_w (star_cons ns)) hq) fun x h1 v H1 g1 _ s1 p1 r1 => ?_
  refine SR.bind (w2 := fun xs H2 Q => Q (v :: xs) H2) (q2 h1 g1 H1 s1 p1) (fun _ hq => hq) fun xs h2 vs H2 g2 _ s2 p2 r2 => ?_
  refine fun Q hQ => hQ _ H2 g2 s2 Pres.refl ⟨v, vs, rfl, ?_, r2⟩
  cases pk with
  | true => exact r1.pk.mono p2
  | false => exact (r1.vl (by simpa using hp)).mono p2
theorem SE.tup {es : List Te} {ees : List Expr} {k : Nat} {pos : Pos} (q1 : SR pg X σ g H (ArR pg.K false) (evEs C G es env h) (wA X ees σ H)) : SR pg X σ g H (VlRel pg.K) (evE C G (.tup es) env h) (wE X (.Tuple ees k pos) σ H) := by
  rw [evE]
  refine SR.bind (w2 := fun (xs : List V) H1 (Q : VK) => xs.length ≤ sizeLine ∧ ∀ p, H1 p = none → Q (V.ref p) (upd H1 p (.tup xs))) q1 (fun Q hq => wE_of (pe_tup pa_w) hq) fun xs h1 vs H1 g1 _ s1 p1 r1 => ?_
  cases e : datL xs with
  | none => exact trivial
  | some ds =>
    have rl := AllR.data r1 e
    dsimp only
    split
    · rename_i c
      exact fun Q hQ => ⟨by rw [rl.length, ← szL]; exact c, ok_tup s1 rl hQ⟩
    · exact trivial
theorem SE.dict0 {pos : Pos} (s : Sim pg.K g h H) : SR pg X σ g H (VlRel pg.K) (evE C G .dict0 env h) (wE X (.Dict [] [] pos) σ H) := by
  rw [evE]
  refine fun Q hQ => wE_of pe_dnewK fun p np => ?_
  obtain ⟨s', p'⟩ := s.frozen np (.dK [])
  refine hQ _ _ _ s' p' ?_
  simp only [VlRel, VlR, Rp]
  exact .inl ⟨p, [], rfl, by show upd g.Z p _ p = _; rw [upd_same], by simp only [RpM]⟩

/-! ### lists made -/
/-- a list that nobody else holds -/
def OwR (K : PySem.W.Frag) : Gh → Hp → List PyData → V → Prop := fun g H xs v => ∃ a vs, v = .ref a ∧ H a = some (.lst vs) ∧ g.Z a = none ∧ a ∉ g.ι ∧ RpL K g.Z xs vs
/-- .. made behind the state g0 H0 -/
def NwR (K : PySem.W.Frag) (H0 : Hp) : Gh → Hp → List PyData → V → Prop := fun g H xs v => ∃ a vs, v = .ref a ∧ H a = some (.lst vs) ∧ g.Z a = none ∧ a ∉ g.ι ∧ RpL K g.Z xs vs ∧ H0 a = none
theorem Sim.loose (s : Sim pg.K g h H) {p : Addr} (np : H p = none) (o : HO) : Sim pg.K g h (upd H p o) ∧ Pres g H g (upd H p o) ∧ g.Z p = none ∧ p ∉ g.ι := by
  have zp : g.Z p = none := by
    cases e : g.Z p with
    | none => rfl
    | some u =>
      have := s.sub _ _ e
      rw [np] at this; cases this
  have nι : p ∉ g.ι := fun m => by
    obtain ⟨vs, e⟩ := s.tracked m
    rw [np] at e; cases e
  refine ⟨⟨fun a u e => ?_, s.nd, s.len, s.out, fun k u e => ?_⟩, ⟨fun _ _ e => e, ⟨[], (List.append_nil _).symm⟩, fun a u e n => ⟨?_, n, id⟩⟩, zp, nι⟩
  · rw [upd_ne (fun z => by rw [z, zp] at e; cases e)]
    exact s.sub _ _ e
  · obtain ⟨a, e1, r⟩ := s.obj k u e
    refine ⟨a, e1, ?_⟩
    cases u with
    | lst xs =>
      obtain ⟨vs, q, r⟩ := r
      exact ⟨vs, by rw [upd_ne (fun z => by rw [z, np] at q; cases q)]; exact q, r⟩
  · rw [upd_ne (fun z => by rw [z, np] at e; cases e)]
    exact e
/-- an own list becomes one that never changes -/
theorem Sim.freeze (s : Sim pg.K g h H) {a : Addr} {vs : List V} (e : H a = some (.lst vs)) (z : g.Z a = none) (ni : a ∉ g.ι) : Sim pg.K ⟨upd g.Z a (.lst vs), g.ι⟩ h H ∧ (∀ b o, g.Z b = some o → upd g.Z a (.lst vs) b = some o) := by
  have zm : ∀ b o, g.Z b = some o → upd g.Z a (.lst vs) b = some o := fun b o q => by
    rw [upd_ne (fun y => by rw [y, z] at q; cases q)]
    exact q
  refine ⟨⟨fun b o q => ?_, s.nd, s.len, fun b m => ?_, fun k u q => ?_⟩, zm⟩
  · have q' : upd g.Z a (.lst vs) b = some o := q
    by_cases hb : b = a
    · subst hb
      rw [upd_same] at q'
      cases q'
      exact e
    · rw [upd_ne hb] at q'
      exact s.sub _ _ q'
  · show upd g.Z a (.lst vs) b = none
    have hb : b ≠ a := fun y => ni (y ▸ m)
    rw [upd_ne hb]
    exact s.out b m
  · obtain ⟨b, e1, r⟩ := s.obj k u q
    refine ⟨b, e1, ?_⟩
    cases u with
    | lst xs =>
      obtain ⟨ws, q2, r⟩ := r
      exact ⟨ws, q2, RpL.mono zm xs ws r⟩
theorem Pres.freezeNew {g0 : Gh} {H0 : Hp} {a : Addr} {vs : List V} (p : Pres g0 H0 g H) (z : g.Z a = none) (n0 : H0 a = none) : Pres g0 H0 ⟨upd g.Z a (.lst vs), g.ι⟩ H := by
  refine ⟨fun b o q => ?_, p.i, fun b o q nb => ?_⟩
  · have q' := p.z b o q
    show upd g.Z a (.lst vs) b = some o
    rw [upd_ne (fun y => by rw [y, z] at q'; cases q')]
    exact q'
  · obtain ⟨k1, k2, k3⟩ := p.k b o q nb
    refine ⟨k1, k2, fun y => ?_⟩
    show upd g.Z a (.lst vs) b = none
    rw [upd_ne (fun w => by rw [w, n0] at q; cases q)]
    exact k3 y
theorem SE.ofL {l : Tl} {e : Expr} (q1 : SR pg X σ g H (NwR pg.K H) (evL C G l env h) (wE X e σ H)) : SR pg X σ g H (VlRel pg.K) (evE C G (.ofL l) env h) (wE X e σ H) := by
  rw [evE]
  cases q : evL C G l env h with
  | no => exact trivial
  | ex y h' =>
    rw [q] at q1
    exact q1
  | ok xs h' =>
    rw [q] at q1
    refine fun Q hQ => q1 Q fun v H' g' s' p' r' => ?_
    obtain ⟨a, vs, rfl, hH, z, ni, rl, n0⟩ := r'
    obtain ⟨s2, zm⟩ := s'.freeze hH z ni
    refine hQ _ H' ⟨upd g'.Z a (.lst vs), g'.ι⟩ s2 (p'.freezeNew z n0) ?_
    simp only [VlRel, VlR, Rp]
    exact ⟨a, vs, rfl, by show upd g'.Z a _ a = _; rw [upd_same], RpL.mono zm xs vs rl⟩
theorem SE.newl {l : Tl} {w : VK → Prop} (q1 : SR pg X σ g H (NwR pg.K H) (evL C G l env h) w) : SR pg X σ g H (VlRel pg.K) (evE C G (.newl l) env h) w := by
  rw [evE]
  cases q : evL C G l env h with
  | no => exact trivial
  | ex y h' =>
    rw [q] at q1
    exact q1
  | ok xs h' =>
    rw [q] at q1
    refine fun Q hQ => q1 Q fun v H' g' s' p' r' => ?_
    obtain ⟨a, vs, rfl, hH, z, ni, rl, n0⟩ := r'
    have s2 : Sim pg.K ⟨g'.Z, g'.ι ++ [a]⟩ (h' ++ [.lst xs]) H' := by
      refine ⟨s'.sub, ?_, ?_, fun b m => ?_, fun k u q => ?_⟩
      · rw [List.nodup_append]
        refine ⟨s'.nd, by simp, fun b m d md => ?_⟩
        have : d = a := by simpa using md
        subst this
        exact fun y => ni (y ▸ m)
      · rw [List.length_append, List.length_append, s'.len]
        rfl
      · rcases List.mem_append.mp m with m | m
        · exact s'.out b m
        · have : b = a := by simpa using m
          subst this
          exact z
      · by_cases hk : k < h'.length
        · rw [List.getElem?_append_left hk] at q
          obtain ⟨b, e1, r⟩ := s'.obj k u q
          refine ⟨b, ?_, r⟩
          show (g'.ι ++ [a])[k]? = some b
          rw [List.getElem?_append_left (by rw [s'.len]; exact hk)]
          exact e1
        · rw [List.getElem?_append_right (Nat.le_of_not_lt hk)] at q
          have h0 : k - h'.length = 0 := by
            by_cases y : k - h'.length = 0
            · exact y
            · rw [List.getElem?_eq_none (by simp; omega)] at q
              cases q
          rw [h0] at q
          simp at q
          subst q
          refine ⟨a, ?_, vs, hH, rl⟩
          show (g'.ι ++ [a])[k]? = some a
          rw [List.getElem?_append_right (by rw [s'.len]; omega), s'.len, h0]
          rfl
    refine hQ _ H' ⟨g'.Z, g'.ι ++ [a]⟩ s2 ⟨p'.z, ?_, fun b o q nb => ?_⟩ ⟨a, ?_, rfl⟩
    · obtain ⟨t, e⟩ := p'.i
      exact ⟨t ++ [a], by rw [← List.append_assoc, ← e]⟩
    · obtain ⟨k1, k2, k3⟩ := p'.k b o q nb
      refine ⟨k1, fun m => ?_, k3⟩
      rcases List.mem_append.mp m with m | m
      · exact k2 m
      · have : b = a := by simpa using m
        subst this
        rw [n0] at q; cases q
    · show (g'.ι ++ [a])[h'.length]? = some a
      rw [List.getElem?_append_right (by rw [s'.len]; exact Nat.le_refl _), s'.len, Nat.sub_self]
      rfl
theorem SL.disp {es : List Te} {ees : List Expr} {pos : Pos} (q1 : SR pg X σ g H (ArR pg.K false) (evEs C G es env h) (wA X ees σ H)) : SR pg X σ g H (NwR pg.K H) (evL C G (.disp es) env h) (wE X (.List ees pos) σ H) := by
  rw [evL]
  cases q : evEs C G es env h with
  | no => exact trivial
  | ex y h' =>
    rw [q] at q1
    exact fun W tk hW Q => wE_of (pe_lst pa_w) (q1 W tk hW _)
  | ok xs h' =>
    rw [q] at q1
    show SR pg X σ g H (NwR pg.K H) (match datL xs with | some ds => if ds.length ≤ SZ then .ok ds h' else .no | none => .no) _
    cases e : datL xs with
    | none => exact trivial
    | some ds =>
      dsimp only
      split
      · rename_i c
        refine fun Q hQ => wE_of (pe_lst pa_w) (q1 _ fun vs H' g' s' p' r' => ?_)
        have rl := AllR.data r' e
        refine ⟨by rw [rl.length, ← szL]; exact c, fun p np => ?_⟩
        obtain ⟨s2, p2, z, ni⟩ := s'.loose np (.lst vs)
        refine hQ _ _ g' s2 (p'.trans p2) ⟨p, vs, rfl, upd_same, z, ni, rl, ?_⟩
        cases n0 : H p with
        | none => rfl
        | some u =>
          by_cases m : p ∈ g.ι
          · obtain ⟨t, et⟩ := p'.i
            exact (ni (by rw [et]; exact List.mem_append_left _ m)).elim
          · have := (p'.k p u n0 m).1
            rw [np] at this; cases this
      · exact trivial

/-- a new list: x + y -/
theorem SL.cat {a b : Te} {ea eb : Expr} {pos : Pos} {Ra Rb : Gh → Hp → Vl → V → Prop} (gx : GX X c pg tb G C n) (ha : ∀ g H x v, Ra g H x v → PkR pg.K g H x v) (hb : ∀ g H x v, Rb g H x v → PkR pg.K g H x v)
    (q1 : SR pg X σ g H Ra (evE C G a env h) (wE X ea σ H)) (q2 : ∀ h1 g1 H1, Sim pg.K g1 h1 H1 → Pres g H g1 H1 → SR pg X σ g1 H1 Rb (evE C G b env h1) (wE X eb σ H1)) :
    SR pg X σ g H (NwR pg.K H) (evL C G (.cat a b) env h) (wE X (.BinOp ea .Add eb pos) σ H) := by
  rw [evL]
  refine SR.bind (w2 := fun x H1 Q => wE X eb σ H1 fun y H2 => ∀ σ, wO X (binaryOp .Add) σ x y H2 Q) q1 (fun Q hq => wE_of (pe_op opR_w pe_w pe_w) hq) fun x h1 v H1 g1 _ s1 p1 r1 => ?_
  refine SR.bind (w2 := fun y H2 Q => ∀ σ, wO X (binaryOp .Add) σ v y H2 Q) (q2 h1 g1 H1 s1 p1) (fun _ hq => hq) fun y h2 u H2 g2 _ s2 p2 r2 => ?_
  have rx := (ha _ _ _ _ r1).mono p2
  have ry := hb _ _ _ _ r2
  split
  · rename_i xs ys
    split
    · rename_i cl
      obtain ⟨pa, vs, rfl, hq, r⟩ := PkD.list s2 rx
      obtain ⟨pb, ws, rfl, hq2, r2⟩ := PkD.list s2 ry
      refine fun Q hQ σ' => wO_of op_cat ⟨pa, pb, vs, ws, rfl, rfl, hq, hq2, by rw [r.length, r2.length]; exact szL ▸ cl, fun p np => ?_⟩
      obtain ⟨s3, p3, z, ni⟩ := s2.loose np (.lst (vs ++ ws))
      refine hQ _ _ g2 s3 p3 ⟨p, _, rfl, upd_same, z, ni, r.append r2, ?_⟩
      have p' := p1.trans p2
      cases n0 : H p with
      | none => rfl
      | some u =>
        by_cases m : p ∈ g.ι
        · obtain ⟨t, et⟩ := p'.i
          exact (ni (by rw [et]; exact List.mem_append_left _ m)).elim
        · have := (p'.k p u n0 m).1
          rw [np] at this; cases this
    · exact trivial
  · exact trivial

/-! ### calls -/
def wF (X : Cx) (f : Addr) (vs : List V) (σ : Sg) (H : Hp) (Q : VK) : Prop := ∀ (pins : List (Addr × Obj)) (s : Shared) (us : List Value), Inv X pins σ H s → Vals vs us → wpAny (model X.prog X.w) X.A (call (.ref f) us) (EP X pins σ Q) X.xe s
theorem noCX {P : Program} {w : World} {outer : List Env} {s s' : Shared} {e : Value} (h : L2.CX P w outer H s (fun _ _ _ => False) e s') : False := by
  obtain ⟨_, _, _, _, _, _, _, _, _, _, _, _, z⟩ := h
  exact z
theorem VlRL.cat {K : PySem.W.Frag} {g : Gh} : ∀ {xs ys : List Vl} {vs ws : List V}, VlRL K g xs vs → VlRL K g ys ws → VlRL K g (xs ++ ys) (vs ++ ws)
  | [], _, _, _, r, q => by
    have r : _ = [] := r
    subst r
    exact q
  | x :: xs, ys, _, ws, ⟨v, t, e, r1, r2⟩, q => ⟨v, t ++ ws, by rw [e]; rfl, r1, VlRL.cat r2 q⟩
theorem VlRL.of_data {K : PySem.W.Frag} {g : Gh} : ∀ {ds : List PyData} {vs : List V}, RpL K (fun _ => none) ds vs → VlRL K g (ds.map .d) vs
  | [], _, r => by
    simp only [RpL] at r
    exact r
  | d :: ds, _, r => by
    simp only [RpL] at r
    obtain ⟨v, t, rfl, r1, r2⟩ := r
    exact ⟨v, t, rfl, Rp.mono (fun a o e => by cases e) d v r1, VlRL.of_data r2⟩
theorem call_okD {f : Addr} {fd : FuncData} {ps : List Str} {F : List Vl → Sh → R Vl} {xs : List Vl} {vs vs0 : List V} {us0 : List Value} {df : List PyData} (gx : GX X c pg tb G C n) (hb : Binds pg.K fd ps us0) (rv0 : Vals vs0 us0) (rd : RpL pg.K (fun _ => none) df vs0) (hF : FnG pg n f fd ps F)
    (hl0 : xs.length + df.length = ps.length) (s : Sim pg.K g h H) (r0 : VlRL pg.K g xs vs) :
    SR pg X σ g H (VlRel pg.K) (F (xs ++ df.map .d) h) (wF X f vs σ H) := by
  have r := r0.cat (VlRL.of_data (g := g) rd)
  have lenV : ∀ {xs : List Vl} {vs : List V}, VlRL pg.K g xs vs → vs.length = xs.length := by
    intro xs
    induction xs with
    | nil => intro vs r; have r : vs = [] := r; subst r; rfl
    | cons x xs ih =>
      intro vs r
      obtain ⟨v, t, rfl, _, r2⟩ := r
      rw [List.length_cons, List.length_cons, ih r2]
  have e0 : ∀ {pins : List (Addr × Obj)} {s1 : Shared}, Inv X pins σ H s1 → Env0 pg.P pg.w pg.K pg.mg pg.base X.A X.stack s1 H := fun I => by
    have q := I.env0
    rw [gx.hP, gx.hw, gx.hK, gx.hm, gx.hb] at q
    exact q
  have bnd : ∀ {pins : List (Addr × Obj)} {s1 : Shared} {us : List Value}, Inv X pins σ H s1 → us.length + us0.length = ps.length → BindsTo s1 fd ⟨us, []⟩ (ps.zip (us ++ us0)) := fun {pins s1 us} I hu => hb s1 us (gx.hK ▸ I.kIn) (by rw [List.length_append]; exact hu)
  have l0 : us0.length = df.length := by rw [← rv0.length, rd.length]
  cases q : F (xs ++ df.map .d) h with
  | no => exact trivial
  | ok x h' =>
    refine fun Q hQ pins s1 us I rv => ?_
    have hv0 : vs.length = xs.length := lenV r0
    have hvl : (vs ++ vs0).length = ps.length := by rw [List.length_append, hv0, rd.length]; exact hl0
    refine wpAny_call ?_
    have hM : model X.prog X.w = model pg.P pg.w := by rw [gx.hP, gx.hw]
    rw [hM]
    refine codeAny_mono (hF.run X.A X.stack s1 H ⟨us, []⟩ (us ++ us0) (vs ++ vs0) (xs ++ df.map .d) h g Q (fun _ _ _ => False) gx.room gx.gd (e0 I) (bnd I (by rw [← rv.length, hv0, l0]; exact hl0)) (rv.append rv0) hvl s r ?_) fun rr s' hq => ?_
    · rw [q]
      exact hQ
    · cases rr with
      | error e => exact (noCX hq).elim
      | ok fl =>
        cases fl with
        | ret u => exact I.after (by rw [gx.hP, gx.hw]; exact hq)
        | next => exact False.elim hq
        | brk => exact False.elim hq
        | cont => exact False.elim hq
  | ex x h' =>
    refine fun W tk hW Q pins s1 us I rv => ?_
    have hv0 : vs.length = xs.length := lenV r0
    have hvl : (vs ++ vs0).length = ps.length := by rw [List.length_append, hv0, rd.length]; exact hl0
    refine wpAny_call ?_
    have hM : model X.prog X.w = model pg.P pg.w := by rw [gx.hP, gx.hw]
    rw [hM]
    refine codeAny_mono (hF.run X.A X.stack s1 H ⟨us, []⟩ (us ++ us0) (vs ++ vs0) (xs ++ df.map .d) h g (fun _ _ => False) (fun cls dx H' => W cls dx σ H') gx.room gx.gd (e0 I) (bnd I (by rw [← rv.length, hv0, l0]; exact hl0)) (rv.append rv0) hvl s r ?_) fun rr s' hq => ?_
    · rw [q]
      exact fun cls dx H' g' s' p' r' => hW cls dx H' g' s' p' r'
    · cases rr with
      | error e => exact tk e s' (XE.of_call (W := W) I (fun cls d H' (z : W cls d σ H') => z) (by rw [gx.hP, gx.hw]; exact hq))
      | ok fl =>
        cases fl with
        | ret u =>
          obtain ⟨_, _, _, _, _, _, _, z⟩ := hq
          exact z.elim
        | next => exact False.elim hq
        | brk => exact False.elim hq
        | cont => exact False.elim hq
theorem call_ok {f : Addr} {fd : FuncData} {ps : List Str} {F : List Vl → Sh → R Vl} {xs : List Vl} {vs vs0 : List V} {us0 : List Value} {df : List PyData} (gx : GX X c pg tb G C n) (hb : Binds pg.K fd ps []) (hb0 : Binds pg.K fd ps us0) (rv0 : Vals vs0 us0) (rd : RpL pg.K (fun _ => none) df vs0) (hF : FnG pg n f fd ps F)
    (hl : ∀ xs h, F xs h ≠ .no → xs.length = ps.length ∨ (xs.length + df.length = ps.length ∧ F xs h = F (xs ++ df.map .d) h)) (s : Sim pg.K g h H) (r : VlRL pg.K g xs vs) :
    SR pg X σ g H (VlRel pg.K) (F xs h) (wF X f vs σ H) := by
  by_cases q : F xs h = .no
  · rw [q]; exact trivial
  · rcases hl xs h q with e | ⟨e1, e2⟩
    · have := call_okD (df := []) (vs0 := []) (us0 := []) (σ := σ) gx hb .nil RpL.nil hF (by simpa using e) s r
      rw [List.map_nil, List.append_nil] at this
      exact this
    · rw [e2]
      exact call_okD gx hb0 rv0 rd hF e1 s r
theorem SE.call {f : Nat} {es : List Te} {ees : List Expr} {x : Str} {p pos : Pos} (gx : GX X c pg tb G C n) (hg : glB c x = true) (hf : tb.fn f = some x) (ns : noStars ees = true) (q1 : SR pg X σ g H (ArR pg.K false) (evEs C G es env h) (wA X ees σ H)) :
    SR pg X σ g H (VlRel pg.K) (evE C G (.call f es) env h) (wE X (.Call (.Name x p) ees [] pos) σ H) := by
  obtain ⟨o1, o2⟩ := glB_of hg
  obtain ⟨a, fd, ps, df, us0, vs0, hm, hk, hb, hF, hb0, rv0, rd, hl⟩ := gx.cl f x hf
  rw [evE]
  refine SR.bind (w2 := fun vs H1 Q => wF X a vs σ H1 Q) q1 (fun Q hq pins s I => ?_) fun xs h1 vs H1 g1 _ s1 p1 r1 => call_ok gx hb hb0 rv0 rd hF hl s1 (AllR.vl r1)
  refine wpAny_Call_Name_kw (ld_glob I (gx.gl' o1) (by rw [gx.hm]; exact hm) ?_ o2)
  cases ees with
  | nil =>
    refine PySem.W.callWith_K0 I.kIn (gx.hK ▸ hk) ?_
    have q := hq pos pins s I
    show wpAny (model X.prog X.w) X.A (spliced [] >>= fun us => PySem.call (.ref a) us) _ _ _
    exact wpAny_bind (thn q fun us s1 ⟨vs, H1, I1, rv, q3⟩ => q3 pins s1 us I1 rv)
  | cons e0 er =>
    rw [noStars, Bool.and_eq_true] at ns
    exact PySem.W.callWith_K (h₀ := X.base) I.ok.mod.kin (gx.hK ▸ hk) (thn (hq pos pins s I) fun us s1 ⟨vs, H1, I1, rv, q⟩ => ⟨I1.kIn, q pins s1 us I1 rv⟩) (star_cons ns.1) (star_any ns.2)

theorem cR_w {f : Value} : CallR X f (fun vs H Q => ∀ σ, wC X f σ vs H Q) := fun pins s σ H vs us Q I rv h => h σ pins s us I rv
theorem bt_of (gx : GX X c pg tb G C n) {b : BI} : X.mg (biN b) = none := by
  rw [gx.hm]
  exact gx.bt _ (by cases b <;> decide +kernel)
theorem SE.bi {b : BI} {es : List Te} {e0 : Expr} {er : List Expr} {x : Str} {p pos : Pos} (gx : GX X c pg tb G C n) (hg : glB c x = true) (hx : x = biN b) (ns : noStars (e0 :: er) = true) (q1 : SR pg X σ g H (ArR pg.K true) (evEs C G es env h) (wA X (e0 :: er) σ H)) :
    SR pg X σ g H (VlRel pg.K) (evE C G (.bi b es) env h) (wE X (.Call (.Name x p) (e0 :: er) [] pos) σ H) := by
  subst hx
  obtain ⟨o1, o2⟩ := glB_of hg
  rw [noStars, Bool.and_eq_true] at ns
  have go : ∀ Q : VK, wA X (e0 :: er) σ H (fun vs H1 => ∀ σ, wC X (biF b) σ vs H1 Q) → wE X (.Call (.Name (biN b) p) (e0 :: er) [] pos) σ H Q := fun Q hq => by
    have hm := bt_of gx (b := b)
    cases b
    case int => exact wE_of (pe_callTy cR_w (gx.gl' o1) hm (by decide +kernel) pa_w (by decide) o2 (star_cons ns.1) (star_any ns.2)) hq
    case str => exact wE_of (pe_callTy cR_w (gx.gl' o1) hm (by decide +kernel) pa_w (by decide) o2 (star_cons ns.1) (star_any ns.2)) hq
    case tuple => exact wE_of (pe_callTy cR_w (gx.gl' o1) hm (by decide +kernel) pa_w (by decide) o2 (star_cons ns.1) (star_any ns.2)) hq
    case list => exact wE_of (pe_callTy cR_w (gx.gl' o1) hm (by decide +kernel) pa_w (by decide) o2 (star_cons ns.1) (star_any ns.2)) hq
    all_goals exact wE_of (pe_callB cR_w (gx.gl' o1) hm (by decide +kernel) pa_w (by decide) o2 (star_cons ns.1) (star_any ns.2)) hq
  rw [evE]
  refine SR.bind (w2 := fun vs H1 Q => ∀ σ, wC X (biF b) σ vs H1 Q) q1 go fun xs h1 vs H1 g1 _ s1 p1 r1 => ?_
  have hu : X.A.units + 190 < cLine := by have := gx.room.un; omega
  cases e : datL xs with
  | some ds => exact SR.lift fun z e2 Q hQ σ => bi_ok gx.hK gx.calm gx.gd hu s1 (AllR.pk r1 e) e2 hQ
  | none =>
    dsimp only
    split
    · rename_i hb
      subst hb
      refine SR.lift fun z e2 Q hQ σ => ?_
      have hx : ∃ x, xs = [x] := by
        unfold lenV at e2
        split at e2
        · exact ⟨_, rfl⟩
        · exact ⟨_, rfl⟩
        · cases e2
      obtain ⟨y, rfl⟩ := hx
      obtain ⟨v, t, rfl, r2, r3⟩ := r1
      have r3 : t = [] := r3
      subst r3
      exact len_ok gx.hK s1 r2 e2 hQ
    · split
      · rename_i hb
        subst hb
        refine SR.lift fun z e2 Q hQ σ => ?_
        have hx : ∃ x, xs = [x] := by
          unfold sumV at e2
          split at e2
          · exact ⟨_, rfl⟩
          · cases e2
        obtain ⟨y, rfl⟩ := hx
        obtain ⟨v, t, rfl, r2, r3⟩ := r1
        have r3 : t = [] := r3
        subst r3
        exact sum_ok gx.hK gx.calm s1 r2 e2 hQ
      · exact trivial
end
end Mi
/-! Mi: enumerate(a tuple). -/
namespace Mi
open PySem PySem.Spec PyProof.Rows L2
open Sem (wp)
theorem newEnumT {ta : Addr} {vals : Array Value} :
    Meets (Builtin.«enumerate.__new__» ⟨[.type "enumerate", .ref ta], []⟩) (fun _ Rs st => st.heap.IsTuple ta vals ∧
      Rs (.ok (.ret (.ref (st.heap.push { cls := .type "tuple_iterator", data := .fields #[.ref ta, .int 0 0] }).objs.size))) { st with heap := (st.heap.push { cls := .type "tuple_iterator", data := .fields #[.ref ta, .int 0 0] }).push { cls := .type "enumerate", data := .fields #[.none, .bool false, .ref st.heap.objs.size, rawInt 0, .none, .none] } }) :=
  .of_wp fun pr wd Ar Rs st hh => by
    obtain ⟨hp, gg, dd, tk, os⟩ := st; obtain ⟨hT, hh⟩ := hh
    have hs := sub_enumerate
    have hB := begins_tuple ta vals
    have q1 : ∀ {A' : Around} {E Q : Value → Shared → Prop}, Q (.ref hp.objs.size) ⟨hp.push { cls := .type "tuple_iterator", data := .fields #[.ref ta, .int 0 0] }, gg, dd, tk, os⟩ → wpAny (model pr wd) A' (pyIter (.ref ta)) Q E ⟨hp, gg, dd, tk, os⟩ := fun q => hB.iter pr wd _ _ ⟨hp, gg, dd, tk, os⟩ _ hT q
    obtain ⟨ob, ho, hcl, tn, hda⟩ := hT
    obtain ⟨c0, d0, t0, s0⟩ := ob
    replace hcl : c0 = .type "tuple" := hcl
    replace hda : t0 = .seq vals tn := hda
    subst hcl hda
    wp_walk using AutoSeq1.wpAny_loadPart' ho
    refine wpAny_stack_any fun st => wpAny_pure ?_
    split
    · rename_i cc _ _ _ _ _
      cases (cc == Value.type "enumerate")
      · wp_walk using AutoSeq1.wpAny_loadPart' ho, q1
        exact ⟨_, rfl, hh⟩
      · wp_walk using AutoSeq1.wpAny_loadPart' ho, q1
        exact ⟨_, rfl, hh⟩
    · wp_walk using AutoSeq1.wpAny_loadPart' ho, q1
      exact ⟨_, rfl, hh⟩
def Itet (K : PySem.W.Frag) (a : Addr) : L2.It :=
  ⟨fun i H => ∃ (xs : List V) (x : V), SqT K H a xs ∧ xs[i]? = some x, fun i H v H' => ∃ T x, v = .ref T ∧ H T = none ∧ H' = upd H T (.tup [.int (i : Nat), x]) ∧ ∀ xs, SqT K H a xs → xs[i]? = some x, fun i H => ∃ xs : List V, SqT K H a xs ∧ xs.length = i⟩
theorem apart_cls {hp : Heap} {a b : Addr} {vals : Array Value} {o : Obj} (t : hp.IsTuple a vals) (hb : hp.get? b = some o) (n : o.cls ≠ .type "tuple") : a ≠ b := fun e => by
  obtain ⟨o2, h2, c2, _⟩ := t
  rw [e, hb] at h2
  cases h2
  exact n c2
theorem goEnumT {P : Program} {w : World} {K : PySem.W.Frag} {elts : List Expr} {kk : Nat} {tpos : Pos} (a e it : Addr) :
    Turn P w K (.Tuple elts kk tpos) (Itet K a) [e, it] e (fun i h => (∃ old, IsEnum h e it ((i : Nat) : Int) old) ∧ h.IsTupleIter it a i ∧ e ≠ it) where
  mem := List.mem_cons_self
  obj := fun i h st b hb => by
    obtain ⟨⟨old, he⟩, ⟨o, ho, hc, hd⟩, _⟩ := st
    rcases List.mem_cons.mp hb with z | z
    · exact ⟨_, z ▸ he, fun v q => by cases q⟩
    · exact ⟨o, List.mem_singleton.mp z ▸ ho, fun v q => by rw [hd] at q; cases q⟩
  keep := fun i h h' st k => ⟨st.1.imp fun old he => k e List.mem_cons_self _ he, st.2.1.at fun o q => k it (by simp) o q, st.2.2⟩
  item := by
    intro Y eP ew eK hcalm i pins s σ H E I hf st hg
    subst eP ew eK
    obtain ⟨⟨old, he⟩, hit, hne⟩ := st
    obtain ⟨xs, x, hq, hx⟩ := hg
    obtain ⟨its, rv, tp, hz⟩ := I.tuple hq
    obtain ⟨u, hu, ru⟩ := rv.get hx
    have tp : s.heap.IsTuple a its.toArray := tp
    have h1 : a ≠ e := apart_cls tp he (by simp)
    have h2 : a ≠ it := by
      obtain ⟨oo, ho, hc, _⟩ := hit
      exact apart_cls tp ho (by rw [hc]; simp)
    have D := Draws.tuple (prog := Y.prog) (w := Y.w) (A := Y.A.in1) (I.ok.hd hcalm) it a h2 its.toArray
    have hel : e < s.heap.objs.size := Heap.lt_size he
    have hil : it < s.heap.objs.size := by obtain ⟨_, q, _⟩ := hit; exact Heap.lt_size q
    have hi : i < its.toArray.size := by rw [List.size_toArray]; exact (List.getElem?_eq_some_iff.mp hu).1
    refine wpAny_pyNext_enum_itemD D he ⟨hit, tp⟩ hi hne (by simp [hne, Ne.symm h1]) fun x' h' tk hP ho hst hT hsz hk => ?_
    have ex : x' = u := by
      have q : its.toArray[i]? = some x' := hP
      rw [List.getElem?_toArray, hu] at q
      cases q; rfl
    subst ex
    refine ⟨_, rfl, wpAny_letOwnedTupleGo_enum (s := { s with heap := h', toks := tk + 1 }) ho fun h'' he' sb => ?_⟩
    have hT2 : h''.get? s.heap.objs.size = some { cls := .type "tuple", data := .seq #[.int i tk, x'] } := (sb.2 _ (Nat.ne_of_gt hel)).trans hT
    have new : ObjOk Y.prog Y.w (upd H s.heap.objs.size (.tup [.int (i : Nat), x])) h'' s.heap.objs.size (.tup [.int (i : Nat), x]) :=
      ⟨by show 2 ≤ sizeLine; decide, [.int i tk, x'], .cons ⟨_, rfl⟩ (.cons ru .nil), ⟨_, hT2, rfl, _, rfl⟩⟩
    have I1 : Inv Y pins σ (upd H s.heap.objs.size (.tup [.int (i : Nat), x])) { s with heap := h'', toks := tk + 1 } :=
      I.turnedNew (ch := [e, it]) (fun b ob hb q => (sb.2 b (fun z => hb (by simp [z]))).trans (hk b ob (fun z => hb (by simp [z])) (fun z => hb (by simp [z])) q)) hf (Nat.le_refl _) new
    refine ⟨.ref s.heap.objs.size, _, I1, rfl, ⟨_, x, rfl, I.hok.fresh (Nat.le_refl _), rfl, fun ys hy => ?_⟩, ⟨⟨x', ?_⟩, hst.1.at fun o q => (sb.2 it (Ne.symm hne)).trans q, hne⟩, fun b hb => ?_⟩
    · rw [I.tuple_inj hy hq]; exact hx
    · have e1 : ((i + 1 : Nat) : Int) = (i : Int) + 1 := by omega
      rw [e1]; exact he'
    · have hlt : b < s.heap.objs.size := by
        rcases List.mem_cons.mp hb with z | z
        · rw [z]; exact hel
        · rw [List.mem_singleton.mp z]; exact hil
      rw [upd_ne (Nat.ne_of_lt hlt)]
      exact (hf b hb).1
  done := by
    intro Y eP ew eK hcalm i pins s σ H E I hf st hg
    subst eP ew eK
    obtain ⟨⟨old, he⟩, hit, hne⟩ := st
    obtain ⟨xs, hq, hx⟩ := hg
    obtain ⟨its, rv, tp, hz⟩ := I.tuple hq
    have tp : s.heap.IsTuple a its.toArray := tp
    obtain ⟨f0, f1, f2, f3, f4, f5⟩ := hf it (by simp)
    have hl := rv.length
    subst hx
    have h2 : a ≠ it := by
      obtain ⟨oo, ho, hc, _⟩ := hit
      exact apart_cls tp ho (by rw [hc]; simp)
    have D := Draws.tuple (prog := Y.prog) (w := Y.w) (A := Y.A.in1) (I.ok.hd hcalm) it a h2 its.toArray
    exact wpAny_pyNext_enum_endD D he ⟨by rw [List.size_toArray, ← hl]; exact hit, tp⟩ fun h' eb => ⟨rfl, I.turned (t' := s.toks) (fun b o hb q => eb b o hb q) f0 f1 f3 f4 f5⟩
  self := fun A i s Q E st h => wpAny_pyIter_enum st.1.choose_spec h
theorem callEnumT {prog : Program} {w : World} {A : Around} {E : Value → Shared → Prop} {s : Shared} {ta : Addr} {vals : Array Value} {Q : Value → Shared → Prop} (hT : s.heap.IsTuple ta vals)
    (fin : ∀ h', IsEnum h' (s.heap.objs.size + 1) s.heap.objs.size 0 .none → h'.IsTupleIter s.heap.objs.size ta 0 →
      (∀ b o, s.heap.get? b = some o → h'.get? b = some o) → Q (.ref (s.heap.objs.size + 1)) { s with heap := h' }) :
    wpAny (model prog w) A (call (.type "enumerate") [.ref ta]) Q E s := by
  refine callType_new F.called_enumerate (by decide) (F.typeCall_enumerate_1 _) (F.newCall_enumerate_1 _) (fun obj => F.args_object_init_2 obj _) F.entry_enumerate_new (newEnumT (vals := vals)) ⟨hT, ?_⟩
  generalize ho1 : ({ cls := .type "tuple_iterator", data := .fields #[.ref ta, .int 0 0] } : Obj) = o1
  have hf : (s.heap.push o1).objs.size = s.heap.objs.size + 1 := Heap.size_push ..
  generalize ho2 : ({ cls := .type "enumerate", data := .fields #[.none, .bool false, .ref s.heap.objs.size, rawInt 0, .none, .none] } : Obj) = o2
  have g2 : ((s.heap.push o1).push o2).get? (s.heap.objs.size + 1) = some o2 := by
    have := Heap.get?_push_size (s.heap.push o1) (o := o2) (by rw [← ho2]; rfl)
    rw [hf] at this; exact this
  show _ ∧ _
  rw [hf]
  subst ho2
  refine ⟨⟨_, g2, rfl⟩, fin _ g2 ⟨o1, Heap.get?_push_of_some _ (Heap.get?_push_size _ (by rw [← ho1]; rfl)), by rw [← ho1], by rw [← ho1]; rfl⟩ fun b o x => Heap.get?_push_of_some _ (Heap.get?_push_of_some _ x)⟩
def iEnumA (K : PySem.W.Frag) (ta : TA) : TI := fun σ H R => ta σ H fun vs H1 => (∃ a xs, vs = [.ref a] ∧ SqL K H1 a xs ∧ R (Ite K a) H1) ∨ (∃ a xs, vs = [.ref a] ∧ SqT K H1 a xs ∧ R (Itet K a) H1)
theorem pi_enumA {X : Cx} {e : Expr} {ta : TA} {p pos tpos : Pos} {elts : List Expr} {kk : Nat} (hg : Gl X "enumerate") (hm : X.mg "enumerate" = none) (ha : PA X [e] ta) (hs : starEach [e] X.env = [(false, eval e X.env)]) :
    PI X (.Tuple elts kk tpos) (.Call (.Name "enumerate" p) [e] [] pos) (iEnumA X.K ta) := by
  refine ⟨fun pins s σ H R I h => ?_⟩
  refine Call_ (ld_blt I hg hm boot_enumerate (PyProof.Rows.callWith_type1 (thn (ha.run pos pins s σ H _ I h) fun us s1 ⟨vs, H1, I1, r1, q1⟩ => ?_) hs rfl))
  have low : ∀ b : Addr, b ∈ [s1.heap.objs.size + 1, s1.heap.objs.size] → s1.heap.objs.size ≤ b := fun b hb => by
    rcases List.mem_cons.mp hb with z | z
    · rw [z]; exact Nat.le_add_right _ _
    · rw [List.mem_singleton.mp z]; exact Nat.le_refl _
  rcases q1 with ⟨a, xs, ex, hq, q⟩ | ⟨a, xs, ex, hq, q⟩
  · subst ex
    cases r1 with
    | cons r rr =>
      cases rr; cases r
      obtain ⟨its, rv, p', hz⟩ := I1.list hq
      refine call_enumerate_list p'.isList fun h' he hit hsz hk => wpAny_pyIter_enum he ?_
      exact ⟨s1.heap.objs.size + 1, [s1.heap.objs.size + 1, s1.heap.objs.size], _, _, H1, rfl, I1.kept (t' := s1.toks) hk, turn_enum a (s1.heap.objs.size + 1) s1.heap.objs.size, ⟨⟨.none, he⟩, hit, Nat.succ_ne_self _⟩, fun b hb => I1.fpOk (low b hb) (I1.hok.fresh (low b hb)), q⟩
  · subst ex
    cases r1 with
    | cons r rr =>
      cases rr; cases r
      obtain ⟨its, rv, tp, hz⟩ := I1.tuple hq
      have tp : s1.heap.IsTuple a its.toArray := tp
      refine callEnumT tp fun h' he hit hk => wpAny_pyIter_enum he ?_
      exact ⟨s1.heap.objs.size + 1, [s1.heap.objs.size + 1, s1.heap.objs.size], _, _, H1, rfl, I1.kept (t' := s1.toks) hk, goEnumT a (s1.heap.objs.size + 1) s1.heap.objs.size, ⟨⟨.none, he⟩, hit, Nat.succ_ne_self _⟩, fun b hb => I1.fpOk (low b hb) (I1.hok.fresh (low b hb)), q⟩
end Mi
/-! Mi: targets, what is walked, comprehensions. -/
namespace Mi
open PySem PySem.Spec PyProof.Rows L2

/-! ### targets -/
def gNs : List Nat → TGs
  | [] => gNil
  | i :: is => gCons (gName i) (gNs is)
def gOf (K : PySem.W.Frag) : Tg → TG
  | .n i => gName i
  | .t is => fun v σ H Q => gTup K is.length (gNs is) v σ H Q ∨ gUnl K is.length (gNs is) v σ H Q
  | .st _ _ => fun _ _ _ _ => False

section
variable {pg : Pg} {tb : Tb} {G : Nat → Option PyData} {C : Cf} {n : Nat} {X : Cx} {c : Cd} {g : Gh} {H : Hp} {σ : Sg} {h : Sh} {env : En}

theorem stB_of (gx : GX X c pg tb G C n) {i : Nat} {x : Str} (ok : stB c i x = true) : X.N[i]? = some x ∧ L2.Loc X.env.scope x ∧ (X.fn x = true ∨ X.env.scope.names.lookup x = some .local) := by
  unfold stB at ok
  rw [Bool.and_eq_true, Bool.or_eq_true, Bool.and_eq_true] at ok
  rw [gx.N, gx.fn]
  unfold L2.Loc
  rw [gx.sc]
  refine ⟨of_decide_eq_true ok.1, ?_, ?_⟩
  · rcases ok.2 with k | k
    · exact .inl (of_decide_eq_true k)
    · exact .inr (of_decide_eq_true k.1)
  · rcases ok.2 with k | k
    · exact .inr (of_decide_eq_true k)
    · exact .inl k.2
theorem pg_nm (gx : GX X c pg tb G C n) {i : Nat} {x : Str} {pos : Pos} (ok : stB c i x = true) : PG X (.Name x pos) (gName i) := by
  obtain ⟨o1, o2, o3⟩ := stB_of gx ok
  exact pg_name (by rw [gx.N]; exact gx.nd) o1 o2 o3
theorem stBs_len : ∀ {is : List Nat} {es : List Expr}, stBs c is es = true → es.length = is.length
  | [], [], _ => rfl
  | i :: is, e :: es, ok => by
    cases e <;> simp only [stBs, Bool.and_eq_true] at ok <;> first | (rw [List.length_cons, List.length_cons, stBs_len ok.2]) | cases ok
  | [], _ :: _, ok => by cases ok
  | _ :: _, [], ok => by cases ok
theorem pgs_nms (gx : GX X c pg tb G C n) : ∀ {is : List Nat} {es : List Expr}, stBs c is es = true → PGs X es (gNs is) ∧ (assignEach es X.env).length = es.length ∧ (assignEach es X.env).findIdx? (·.1) = none
  | [], [], _ => ⟨pgs_nil, rfl, rfl⟩
  | i :: is, e :: es, ok => by
    cases e <;> simp only [stBs, Bool.and_eq_true] at ok <;> try cases ok
    rename_i o1 o2
    obtain ⟨q1, q2, q3⟩ := pgs_nms gx o2
    refine ⟨pgs_cons (pg_nm gx o1) q1, ?_, ?_⟩
    · show (assignEach es X.env).length + 1 = _
      rw [q2]; rfl
    · show List.findIdx? _ ((false, _) :: assignEach es X.env) = none
      rw [List.findIdx?_cons, q3]
      rfl
  | [], _ :: _, ok => by cases ok
  | _ :: _, [], ok => by cases ok
theorem pg_of (gx : GX X c pg tb G C n) {tg : Tg} {e : Expr} (ok : tgB c tg e = true) : PG X e (gOf pg.K tg) := by
  cases tg with
  | n i => cases e <;> simp only [tgB] at ok <;> first | exact pg_nm gx ok | cases ok
  | t is =>
    cases e <;> simp only [tgB] at ok <;> try cases ok
    obtain ⟨q1, q2, q3⟩ := pgs_nms gx ok
    rw [← gx.hK]
    refine ⟨fun pins s σ H v u Q I r q => ?_⟩
    rcases q with q | q
    · exact (pg_tup gx.calm q1 (by rw [q2, stBs_len ok]) q3).run pins s σ H v u Q I r q
    · exact (pg_unl gx.calm q1 (by rw [q2, stBs_len ok]) q3).run pins s σ H v u Q I r q
  | st is r => cases e <;> cases ok
/-- names set to items -/
theorem bindIs_ok : ∀ {is : List Nat} {ds : List PyData} {vs : List V} {env env' : En} {σ : Sg} {Q : Sg → Hp → Prop}, bindIs is ds env = some env' → RpL pg.K g.Z ds vs → EnR pg.K g H env σ → (∀ σ', EnR pg.K g H env' σ' → (∀ ws, (∀ i ∈ is, i ∈ ws) → wipe σ' ws = wipe σ ws) → Q σ' H) → gNs is vs σ H Q
  | [], [], vs, env, env', σ, Q, e, r, en, q => by
    simp only [bindIs, Option.some.injEq] at e
    subst e
    simp only [RpL] at r
    exact ⟨r, q σ en fun _ _ => rfl⟩
  | i :: is, d :: ds, vs, env, env', σ, Q, e, r, en, q => by
    simp only [RpL] at r
    obtain ⟨v, t, rfl, r1, r2⟩ := r
    have en2 : EnR pg.K g H (env.set i (.v (.d d))) (σ.set i (some v)) := en.set (x := .d d) r1
    refine ⟨v, t, rfl, bindIs_ok (is := is) e r2 en2 fun σ' en' w => q σ' en' fun ws hw => ?_⟩
    rw [w ws fun j m => hw j (List.mem_cons_of_mem _ m)]
    exact wipe_set (hw i List.mem_cons_self)
  | [], _ :: _, _, _, _, _, _, e, _, _, _ => by simp [bindIs] at e
  | _ :: _, [], _, _, _, _, _, e, _, _, _ => by simp [bindIs] at e
where
  wipe_set {σ : Sg} {i : Nat} {o : Option V} : ∀ {ws : List Nat}, i ∈ ws → wipe (σ.set i o) ws = wipe σ ws
    | w :: ws, m => by
      unfold wipe
      by_cases hi : i ∈ ws
      · rw [wipe_set hi]
      · have e : i = w := by
          rcases List.mem_cons.mp m with e | m
          · exact e
          · exact absurd m hi
        subst e
        have : ∀ ws : List Nat, i ∉ ws → wipe (σ.set i o) ws = (wipe σ ws).set i o := by
          intro ws
          induction ws with
          | nil => intro _; rfl
          | cons x xs ih =>
            intro hx
            have h1 : i ≠ x := fun e => hx (e ▸ List.mem_cons_self)
            unfold wipe
            rw [ih fun m => hx (List.mem_cons_of_mem _ m), List.set_comm _ _ h1]
        rw [this ws hi, List.set_set]
theorem bindIs_len : ∀ {is : List Nat} {xs : List PyData} {env env' : En}, bindIs is xs env = some env' → xs.length = is.length
  | [], [], _, _, _ => rfl
  | i :: is, x :: xs, env, env', e => by rw [List.length_cons, List.length_cons, bindIs_len (is := is) e]
  | [], _ :: _, _, _, e => by simp [bindIs] at e
  | _ :: _, [], _, _, e => by simp [bindIs] at e
theorem tg_ok {tg : Tg} {x : Vl} {v : V} {env' : En} {Q : Sg → Hp → Prop} (hs : (∃ is r, tg = .st is r) → False) (e : bindTg tg x env = some env') (s : Sim pg.K g h H) (r : VlR pg.K g x v) (en : EnR pg.K g H env σ)
    (q : ∀ σ', EnR pg.K g H env' σ' → (∀ ws, (∀ i ∈ tg.names, i ∈ ws) → wipe σ' ws = wipe σ ws) → Q σ' H) : gOf pg.K tg v σ H Q := by
  unfold bindTg at e
  split at e
  · rename_i i
    cases e
    exact q _ (en.set r) fun ws hw => bindIs_ok.wipe_set (hw _ (by simp [Tg.names]))
  · rename_i is xs
    have r : Rp pg.K g.Z (.tuple xs) v := r
    simp only [Rp] at r
    obtain ⟨a, vs, rfl, hq, rl⟩ := r
    refine .inl ⟨a, vs, rfl, sqT_mono s.sub hq, ?_, bindIs_ok e rl en q⟩
    rw [rl.length]
    exact bindIs_len e
  · rename_i is xs
    have r : Rp pg.K g.Z (.list xs) v := r
    simp only [Rp] at r
    obtain ⟨a, vs, rfl, hq, rl⟩ := r
    refine .inr ⟨a, vs, rfl, .of (s.sub _ _ hq), ?_, bindIs_ok e rl en q⟩
    rw [rl.length]
    exact bindIs_len e
  · exact (hs ⟨_, _, rfl⟩).elim
  · cases e

/-! ### what is walked -/
structure Wk (K : PySem.W.Frag) (g0 : Gh) (items : List Vl) (J : L2.It) : Prop where
  go : ∀ (i : Nat) g h H, Sim K g h H → (∀ a o, g0.Z a = some o → g.Z a = some o) → i < items.length → J.go i H
  stop : ∀ g h H, Sim K g h H → (∀ a o, g0.Z a = some o → g.Z a = some o) → J.stop items.length H
  yld : ∀ (i : Nat) g h H x H', Sim K g h H → (∀ a o, g0.Z a = some o → g.Z a = some o) → i < items.length → J.yld i H x H' → ∃ g' y, items[i]? = some y ∧ Sim K g' h H' ∧ Pres g H g' H' ∧ VlR K g' y x
def wI (X : Cx) (tg iter : Expr) (σ : Sg) (H : Hp) (R : L2.It → Hp → Prop) : Prop := ∀ (pins : List (Addr × Obj)) (s : Shared), Inv X pins σ H s →
  wpAny (model X.prog X.w) X.A (eval iter X.env) (fun v s1 => wpAny (model X.prog X.w) X.A (pyIter v) (PIE X pins σ tg R) X.xe s1) X.xe s
theorem pi_w {tg iter : Expr} : PI X tg iter (wI X tg iter) := ⟨fun pins s σ H R I q => q pins s I⟩
theorem wI_of {tg iter : Expr} {t : TI} (p : PI X tg iter t) {R : L2.It → Hp → Prop} (q : t σ H R) : wI X tg iter σ H R := fun pins s I => p.run pins s σ H R I q
/-- a tuple or a list -/
def iSeq (K : PySem.W.Frag) (te : TE) : TI := fun σ H R => te σ H fun x H1 => (∃ a, x = .ref a ∧ (((∃ xs, SqL K H1 a xs) ∧ R (Itl K a) H1) ∨ ((∃ xs, SqT K H1 a xs) ∧ R (Itt K a) H1))) ∨ ∃ t, x = .str t ∧ R (Its t) H1
theorem pi_seq {tg e : Expr} {te : TE} (p : PE X e te) : PI X tg e (iSeq X.K te) := by
  refine ⟨fun pins s σ H R I q => thn (p.run pins s σ H _ I q) fun v s1 ⟨x, H1, I1, r1, q0⟩ => ?_⟩
  rcases q0 with ⟨a, ex, q1⟩ | ⟨z, ex, q1⟩
  rotate_left
  · subst ex
    obtain ⟨t, rfl⟩ := r1
    cases ha : z.cps.all (· < 128)
    · exact wpAny_pyIter_wide ha (pi_one (tk := s1.toks) I1 _ (turn_str _ z t "str_iterator" (.inr rfl)) ⟨_, Heap.get?_push_size _ rfl, rfl, rfl⟩ q1)
    · exact wpAny_pyIter_ascii ha (pi_one (tk := s1.toks) I1 _ (turn_str _ z t "str_ascii_iterator" (.inl rfl)) ⟨_, Heap.get?_push_size _ rfl, rfl, rfl⟩ q1)
  subst ex
  cases r1
  rcases q1 with ⟨⟨xs, hq⟩, q⟩ | ⟨⟨xs, hq⟩, q⟩
  · obtain ⟨its, rv, pl, _⟩ := I1.list hq
    refine wpAny_pyIter_list pl.isList ⟨s1.heap.objs.size, [s1.heap.objs.size], _, _, H1, rfl, I1.kept (t' := s1.toks) fun b o e => Heap.get?_push_of_some _ e, turn_list a _, ⟨_, Heap.get?_push_size _ rfl, rfl, rfl⟩, fun b hb => ?_, q⟩
    cases List.mem_singleton.mp hb
    exact I1.fpOk (Nat.le_refl _) (I1.hok.fresh (Nat.le_refl _))
  · obtain ⟨its, rv, pl, _⟩ := I1.tuple hq
    refine wpAny_pyIter_tuple (show s1.heap.IsTuple a its.toArray from pl) ⟨s1.heap.objs.size, [s1.heap.objs.size], _, _, H1, rfl, I1.kept (t' := s1.toks) fun b o e => Heap.get?_push_of_some _ e, turn_tuple a _, ⟨_, Heap.get?_push_size _ rfl, rfl, rfl⟩, fun b hb => ?_, q⟩
    cases List.mem_singleton.mp hb
    exact I1.fpOk (Nat.le_refl _) (I1.hok.fresh (Nat.le_refl _))
theorem get_map_d {xs : List PyData} {i : Nat} (hi : i < (xs.map Vl.d).length) : ∃ x, xs[i]? = some x ∧ (xs.map Vl.d)[i]? = some (.d x) := by
  rw [List.length_map] at hi
  exact ⟨xs[i], List.getElem?_eq_getElem hi, by rw [List.getElem?_map, List.getElem?_eq_getElem hi]; rfl⟩
theorem wk_list {xs : List PyData} {a : Addr} {vs : List V} (z : g.Z a = some (.lst vs)) (r : RpL pg.K g.Z xs vs) : Wk pg.K g (xs.map Vl.d) (Itl pg.K a) where
  go := fun i g' h' H' s m hi => by
    obtain ⟨x, e1, _⟩ := get_map_d hi
    obtain ⟨v, e2, _⟩ := r.get e1
    exact ⟨vs, v, .of (s.sub _ _ (m _ _ z)), e2⟩
  stop := fun g' h' H' s m => ⟨vs, .of (s.sub _ _ (m _ _ z)), by rw [List.length_map, r.length]; exact Nat.le_refl _⟩
  yld := fun i g' h' H' x H'' s m hi y => by
    obtain ⟨e0, y⟩ := y
    subst e0
    obtain ⟨d, e1, e2⟩ := get_map_d hi
    obtain ⟨v, e3, r3⟩ := r.get e1
    have := (y vs (.of (s.sub _ _ (m _ _ z)))).symm.trans e3
    cases this
    exact ⟨g', .d d, e2, s, Pres.refl, Rp.mono m d _ r3⟩
theorem wk_str {x : Str} : Wk pg.K g ((x.cps.toList.map fun c => PyData.str ⟨#[c]⟩).map Vl.d) (Its x) where
  go := fun i g' h' H' s m hi => by
    rw [List.length_map, List.length_map, Array.length_toList] at hi
    exact hi
  stop := fun g' h' H' s m => by
    rw [List.length_map, List.length_map, Array.length_toList]
    exact Nat.le_refl _
  yld := fun i g' h' H' v H'' s m hi y => by
    obtain ⟨e0, c, e1, e2⟩ := y
    subst e0 e2
    refine ⟨g', .d (.str ⟨#[c]⟩), ?_, s, Pres.refl, by simp only [VlR, Rp]⟩
    rw [List.getElem?_map, List.getElem?_map, Array.getElem?_toList, e1]
    rfl
theorem wk_tup {xs : List PyData} {a : Addr} {vs : List V} (z : SqT pg.K g.Z a vs) (r : RpL pg.K g.Z xs vs) : Wk pg.K g (xs.map Vl.d) (Itt pg.K a) where
  go := fun i g' h' H' s m hi => by
    obtain ⟨x, e1, _⟩ := get_map_d hi
    obtain ⟨v, e2, _⟩ := r.get e1
    exact ⟨vs, v, sqT_mono s.sub (sqT_mono m z), e2⟩
  stop := fun g' h' H' s m => ⟨vs, sqT_mono s.sub (sqT_mono m z), by rw [List.length_map, r.length]; exact Nat.le_refl _⟩
  yld := fun i g' h' H' x H'' s m hi y => by
    obtain ⟨e0, y⟩ := y
    subst e0
    obtain ⟨d, e1, e2⟩ := get_map_d hi
    obtain ⟨v, e3, r3⟩ := r.get e1
    have := (y vs (sqT_mono s.sub (sqT_mono m z))).symm.trans e3
    cases this
    exact ⟨g', .d d, e2, s, Pres.refl, Rp.mono m d _ r3⟩
theorem rng_get : ∀ (k : Nat) (lo : Int) (i : Nat), i < k → (rng lo k)[i]? = some (.d (.int (lo + i)))
  | 0, _, _, h => absurd h (Nat.not_lt_zero _)
  | k + 1, lo, 0, _ => by simp [rng]
  | k + 1, lo, i + 1, h => by
    show (rng (lo + 1) k)[i]? = _
    rw [rng_get k (lo + 1) i (by omega)]
    have : lo + 1 + (i : Int) = lo + ((i + 1 : Nat) : Int) := by omega
    rw [this]
theorem rng_len : ∀ (k : Nat) (lo : Int), (rng lo k).length = k
  | 0, _ => rfl
  | k + 1, lo => by
    show (rng (lo + 1) k).length + 1 = _
    rw [rng_len]
theorem wk_rng {lo : Int} {k : Nat} : Wk pg.K g (rng lo k) (Itr lo k) where
  go := fun i _ _ _ _ _ hi => by rw [rng_len] at hi; exact hi
  stop := fun _ _ _ _ _ => by rw [rng_len]; exact Nat.le_refl _
  yld := fun i g' h' H' x H'' s m hi y => by
    obtain ⟨e0, e1⟩ := y
    subst e0 e1
    rw [rng_len] at hi
    exact ⟨g', _, rng_get k lo i hi, s, Pres.refl, by simp only [VlR, Rp]⟩
theorem pairs_get : ∀ (xs : List PyData) (k i : Nat), i < xs.length → ∃ x, xs[i]? = some x ∧ (pairs k xs)[i]? = some (.d (.tuple [.int ((k + i : Nat) : Int), x]))
  | [], _, _, h => absurd h (Nat.not_lt_zero _)
  | x :: xs, k, 0, _ => ⟨x, rfl, rfl⟩
  | x :: xs, k, i + 1, h => by
    obtain ⟨y, e1, e2⟩ := pairs_get xs (k + 1) i (by simpa using h)
    refine ⟨y, by simpa using e1, ?_⟩
    show (pairs (k + 1) xs)[i]? = _
    rw [e2, show k + 1 + i = k + (i + 1) by omega]
theorem pairs_len : ∀ (xs : List PyData) (k : Nat), (pairs k xs).length = xs.length
  | [], _ => rfl
  | x :: xs, k => by
    show (pairs (k + 1) xs).length + 1 = _
    rw [pairs_len]; rfl
theorem wk_enum {xs : List PyData} {a : Addr} {vs : List V} (z : g.Z a = some (.lst vs)) (r : RpL pg.K g.Z xs vs) : Wk pg.K g (pairs 0 xs) (Ite pg.K a) where
  go := fun i g' h' H' s m hi => by
    rw [pairs_len] at hi
    obtain ⟨v, e2, _⟩ := r.get (List.getElem?_eq_getElem hi)
    exact ⟨vs, v, .of (s.sub _ _ (m _ _ z)), e2⟩
  stop := fun g' h' H' s m => ⟨vs, .of (s.sub _ _ (m _ _ z)), by rw [pairs_len, r.length]; exact Nat.le_refl _⟩
  yld := fun i g' h' H' x H'' s m hi y => by
    obtain ⟨T, w, e0, nT, e1, y⟩ := y
    subst e0 e1
    rw [pairs_len] at hi
    obtain ⟨d, e2, e3⟩ := pairs_get xs 0 i hi
    obtain ⟨v, e4, r4⟩ := r.get e2
    have := (y vs (.of (s.sub _ _ (m _ _ z)))).symm.trans e4
    cases this
    obtain ⟨s2, p2⟩ := s.frozen nT (.tup [.int (i : Nat), w])
    refine ⟨_, _, e3, s2, p2, ?_⟩
    show Rp _ _ _ _
    simp only [Rp]
    refine ⟨T, _, rfl, .of (by show upd _ T _ T = _; rw [upd_same]), RpL.cons (by simp only [Rp, Nat.zero_add]) (RpL.cons (Rp.mono p2.z _ _ (Rp.mono m _ _ r4)) RpL.nil)⟩
theorem wk_enumT {xs : List PyData} {a : Addr} {vs : List V} (z : SqT pg.K g.Z a vs) (r : RpL pg.K g.Z xs vs) : Wk pg.K g (pairs 0 xs) (Itet pg.K a) where
  go := fun i g' h' H' s m hi => by
    rw [pairs_len] at hi
    obtain ⟨v, e2, _⟩ := r.get (List.getElem?_eq_getElem hi)
    exact ⟨vs, v, sqT_mono s.sub (sqT_mono m z), e2⟩
  stop := fun g' h' H' s m => ⟨vs, sqT_mono s.sub (sqT_mono m z), by rw [pairs_len, r.length]⟩
  yld := fun i g' h' H' x H'' s m hi y => by
    obtain ⟨T, w, e0, nT, e1, y⟩ := y
    subst e0 e1
    rw [pairs_len] at hi
    obtain ⟨d, e2, e3⟩ := pairs_get xs 0 i hi
    obtain ⟨v, e4, r4⟩ := r.get e2
    have := (y vs (sqT_mono s.sub (sqT_mono m z))).symm.trans e4
    cases this
    obtain ⟨s2, p2⟩ := s.frozen nT (.tup [.int (i : Nat), w])
    refine ⟨_, _, e3, s2, p2, ?_⟩
    show Rp _ _ _ _
    simp only [Rp]
    refine ⟨T, _, rfl, .of (by show upd _ T _ T = _; rw [upd_same]), RpL.cons (by simp only [Rp, Nat.zero_add]) (RpL.cons (Rp.mono p2.z _ _ (Rp.mono m _ _ r4)) RpL.nil)⟩
theorem zips_get : ∀ (xs ys : List PyData) (i : Nat), i < (zips xs ys).length → ∃ x y, xs[i]? = some x ∧ ys[i]? = some y ∧ (zips xs ys)[i]? = some (.d (.tuple [x, y]))
  | [], _, _, h => absurd h (Nat.not_lt_zero _)
  | _ :: _, [], _, h => absurd h (Nat.not_lt_zero _)
  | x :: xs, y :: ys, 0, _ => ⟨x, y, rfl, rfl, rfl⟩
  | x :: xs, y :: ys, i + 1, h => by
    obtain ⟨u, w, e1, e2, e3⟩ := zips_get xs ys i (by simpa [zips] using h)
    exact ⟨u, w, by simpa using e1, by simpa using e2, by simpa [zips] using e3⟩
theorem zips_len : ∀ (xs ys : List PyData), xs.length ≤ (zips xs ys).length ∨ ys.length ≤ (zips xs ys).length
  | [], _ => .inl (Nat.zero_le _)
  | _ :: _, [] => .inr (Nat.zero_le _)
  | x :: xs, y :: ys => by
    rcases zips_len xs ys with h | h
    · exact .inl (Nat.succ_le_succ h)
    · exact .inr (Nat.succ_le_succ h)
theorem wk_zip {xs ys : List PyData} {a b : Addr} {vs ws : List V} (z : g.Z a = some (.lst vs)) (r : RpL pg.K g.Z xs vs) (z2 : g.Z b = some (.lst ws)) (r2 : RpL pg.K g.Z ys ws) : Wk pg.K g (zips xs ys) (Itz pg.K a b) where
  go := fun i g' h' H' s m hi => by
    obtain ⟨x, y, e1, e2, _⟩ := zips_get xs ys i hi
    obtain ⟨v, e3, _⟩ := r.get e1
    obtain ⟨w, e4, _⟩ := r2.get e2
    exact ⟨vs, ws, v, w, .of (s.sub _ _ (m _ _ z)), .of (s.sub _ _ (m _ _ z2)), e3, e4⟩
  stop := fun g' h' H' s m => ⟨vs, ws, .of (s.sub _ _ (m _ _ z)), .of (s.sub _ _ (m _ _ z2)), by rw [r.length, r2.length]; exact zips_len xs ys⟩
  yld := fun i g' h' H' x H'' s m hi y => by
    obtain ⟨T, p, q, e0, nT, e1, y1, y2⟩ := y
    subst e0 e1
    obtain ⟨d, e, e2, e3, e4⟩ := zips_get xs ys i hi
    obtain ⟨v, e5, r5⟩ := r.get e2
    obtain ⟨w, e6, r6⟩ := r2.get e3
    have t1 := (y1 vs (.of (s.sub _ _ (m _ _ z)))).symm.trans e5
    have t2 := (y2 ws (.of (s.sub _ _ (m _ _ z2)))).symm.trans e6
    cases t1; cases t2
    obtain ⟨s2, p2⟩ := s.frozen nT (.tup [p, q])
    refine ⟨_, _, e4, s2, p2, ?_⟩
    show Rp _ _ _ _
    simp only [Rp]
    exact ⟨T, _, rfl, .of (by show upd _ T _ T = _; rw [upd_same]), RpL.cons (Rp.mono p2.z _ _ (Rp.mono m _ _ r5)) (RpL.cons (Rp.mono p2.z _ _ (Rp.mono m _ _ r6)) RpL.nil)⟩

/-- what a for, a comprehension walks -/
def itR (C : Cf) (G : Nat → Option PyData) (k : Mi.It) (es : List Te) (env : En) (h : Sh) : R (List Vl) := (evEs C G es env h).bind fun xs h1 => match evIt k xs with
  | some items => .ok items h1
  | none => .no
theorem bt_nm (gx : GX X c pg tb G C n) {x : Str} (hx : x ∈ bNames) : X.mg x = none := by rw [gx.hm]; exact gx.bt x hx
theorem okEs_stars {pk : Bool} : ∀ {es : List Te} {ees : List Expr}, okEs c tb pk es ees = true → noStars ees = true
  | [], [], _ => rfl
  | e :: es, e' :: es', ok => by
    simp only [okEs, Bool.and_eq_true] at ok
    rw [noStars, Bool.and_eq_true]
    exact ⟨ok.1.2, okEs_stars ok.2⟩
  | [], _ :: _, ok => by simp [okEs] at ok
  | _ :: _, [], ok => by simp [okEs] at ok
theorem star1 {a : Expr} {env : Env} (h : noStars [a] = true) : starEach [a] env = [(false, eval a env)] := by
  rw [noStars, Bool.and_eq_true] at h
  exact star_cons h.1
theorem star2 {a b : Expr} {env : Env} (h : noStars [a, b] = true) : starEach [a, b] env = [(false, eval a env), (false, eval b env)] := by
  rw [noStars, Bool.and_eq_true] at h
  rw [star_cons h.1, star1 h.2]
theorem evIt_some {k : Mi.It} {xs items : List Vl} (e : evIt k xs = some items) :
    (k = .seq ∧ ∃ x ys, xs = [.d x] ∧ seqD x = some ys ∧ items = ys.map .d) ∨ (k = .range1 ∧ ∃ j, xs = [.d (.int j)] ∧ (-1000000 ≤ j ∧ j ≤ 1000000) ∧ items = rng 0 j.toNat) ∨
    (k = .range2 ∧ ∃ i j, xs = [.d (.int i), .d (.int j)] ∧ (-1000000 ≤ i ∧ i ≤ 1000000 ∧ -1000000 ≤ j ∧ j ≤ 1000000) ∧ items = rng i (j - i).toNat) ∨
    (k = .enum ∧ ∃ ys, (xs = [.d (.list ys)] ∨ xs = [.d (.tuple ys)]) ∧ items = pairs 0 ys) ∨ (k = .zip ∧ ∃ ys zs, xs = [.d (.list ys), .d (.list zs)] ∧ items = zips ys zs) := by
  unfold evIt at e
  split at e
  · obtain ⟨ys, e1, rfl⟩ := Option.map_eq_some_iff.mp e
    exact .inl ⟨rfl, _, ys, rfl, e1, rfl⟩
  · split at e
    · rename_i hc
      cases e
      exact .inr (.inl ⟨rfl, _, rfl, hc, rfl⟩)
    · cases e
  · split at e
    · rename_i hc
      cases e
      exact .inr (.inr (.inl ⟨rfl, _, _, rfl, hc, rfl⟩))
    · cases e
  · cases e
    exact .inr (.inr (.inr (.inl ⟨rfl, _, .inl rfl, rfl⟩)))
  · cases e
    exact .inr (.inr (.inr (.inl ⟨rfl, _, .inr rfl, rfl⟩)))
  · cases e
    exact .inr (.inr (.inr (.inr ⟨rfl, _, _, rfl, rfl⟩)))
  · cases e
theorem one_of {x : Vl} {vs : List V} (r : ArR pg.K false g H [x] vs) : ∃ v, vs = [v] ∧ VlR pg.K g x v := by
  obtain ⟨v, t, rfl, r1, r2⟩ := r
  have r2 : t = [] := r2
  subst r2
  exact ⟨v, rfl, r1⟩
theorem two_of {x y : Vl} {vs : List V} (r : ArR pg.K false g H [x, y] vs) : ∃ v u, vs = [v, u] ∧ VlR pg.K g x v ∧ VlR pg.K g y u := by
  obtain ⟨v, t, rfl, r1, u, t2, rfl, r2, r3⟩ := r
  have r3 : t2 = [] := r3
  subst r3
  exact ⟨v, u, rfl, r1, r2⟩
theorem SI.all {tg : Tg} {k : Mi.It} {es : List Te} {te it : Expr} (gx : GX X c pg tb G C n) (ok : itB c (okEs c tb false es) tg k it = true) (okt : ∃ c', tgB c' tg te = true)
    (q1 : ∀ ees, okEs c tb false es ees = true → SR pg X σ g H (ArR pg.K false) (evEs C G es env h) (wA X ees σ H))
    (q0 : ∀ e, k = .seq → okEs c tb false es [e] = true → SR pg X σ g H (fun g H xs v => ∃ x, xs = [x] ∧ VlR pg.K g x v) (evEs C G es env h) (wE X e σ H)) :
    SR pg X σ g H (fun g _ items J => Wk pg.K g items J) (itR C G k es env h) (wI X te it σ H) := by
  unfold itR
  unfold itB at ok
  have tupT : isTt tg = true → ∃ elts kk tpos, te = .Tuple elts kk tpos := fun ht => by
    obtain ⟨c', okt⟩ := okt
    cases tg with
    | t is => cases te <;> simp only [tgB] at okt <;> first | exact ⟨_, _, _, rfl⟩ | cases okt
    | _ => cases ht
  split at ok
  · rw [Bool.and_eq_true, Bool.and_eq_true] at ok
    obtain ⟨⟨ex, og⟩, oe⟩ := ok
    have ex := of_decide_eq_true ex
    subst ex
    refine SR.bind (w2 := fun vs H1 (Q : L2.It → Hp → Prop) => ∃ j : Int, vs = [V.int j] ∧ -(2 ^ 62) ≤ j ∧ j < 2 ^ 62 ∧ Q (Itr 0 j.toNat) H1) (q1 _ oe)
      (fun Q hq => wI_of (pi_range1 (gx.gl' (glB_of og).1) (bt_nm gx (by decide +kernel)) pa_w (star1 (okEs_stars oe))) hq) fun xs h1 vs H1 g1 e1 s1 p1 r1 => ?_
    cases e : evIt .range1 xs with
    | none => exact trivial
    | some items =>
      obtain ⟨_, j, rfl, hj, rfl⟩ := ((evIt_some e).resolve_left (fun z => nomatch z.1)).resolve_right (fun z => by rcases z with z | z | z <;> cases z.1)
      obtain ⟨v, rfl, r⟩ := one_of r1
      cases (show v = .int j from by simpa only [VlR, Rp] using r)
      refine fun Q hQ => ⟨j, rfl, ?_, ?_, hQ _ H1 g1 s1 Pres.refl wk_rng⟩
      · omega
      · omega
  · rw [Bool.and_eq_true, Bool.and_eq_true] at ok
    obtain ⟨⟨ex, og⟩, oe⟩ := ok
    have ex := of_decide_eq_true ex
    subst ex
    have st := star2 (env := X.env) (okEs_stars oe)
    have st1 := okEs_stars oe
    rw [noStars, Bool.and_eq_true] at st1
    refine SR.bind (w2 := fun vs H1 (Q : L2.It → Hp → Prop) => ∃ i j : Int, vs = [V.int i, V.int j] ∧ (-(2 ^ 62) ≤ i ∧ i < 2 ^ 62 ∧ -(2 ^ 62) ≤ j ∧ j < 2 ^ 62) ∧ Q (Itr i (j - i).toNat) H1) (q1 _ oe)
      (fun Q hq => wI_of (pi_range2 (gx.gl' (glB_of og).1) (bt_nm gx (by decide +kernel)) pa_w st (star1 st1.2)) hq) fun xs h1 vs H1 g1 e1 s1 p1 r1 => ?_
    cases e : evIt .range2 xs with
    | none => exact trivial
    | some items =>
      obtain ⟨i, j, rfl, hj, rfl⟩ : ∃ i j, xs = [.d (.int i), .d (.int j)] ∧ (-1000000 ≤ i ∧ i ≤ 1000000 ∧ -1000000 ≤ j ∧ j ≤ 1000000) ∧ items = rng i (j - i).toNat := by
        rcases evIt_some e with z | z | z | z | z <;> first | (cases z.1; done) | exact z.2
      obtain ⟨v, u, rfl, r, r2⟩ := two_of r1
      cases (show v = .int i from by simpa only [VlR, Rp] using r)
      cases (show u = .int j from by simpa only [VlR, Rp] using r2)
      refine fun Q hQ => ⟨i, j, rfl, ⟨?_, ?_, ?_, ?_⟩, hQ _ H1 g1 s1 Pres.refl wk_rng⟩
      · omega
      · omega
      · omega
      · omega
  · rw [Bool.and_eq_true, Bool.and_eq_true, Bool.and_eq_true] at ok
    obtain ⟨⟨⟨ex, og⟩, oe⟩, ot⟩ := ok
    have ex := of_decide_eq_true ex
    subst ex
    obtain ⟨elts, kk, tpos, rfl⟩ := tupT ot
    refine SR.bind (w2 := fun vs H1 (Q : L2.It → Hp → Prop) => (∃ a xs, vs = [V.ref a] ∧ SqL X.K H1 a xs ∧ Q (Ite X.K a) H1) ∨ (∃ a xs, vs = [V.ref a] ∧ SqT X.K H1 a xs ∧ Q (Itet X.K a) H1)) (q1 _ oe)
      (fun Q hq => wI_of (pi_enumA (gx.gl' (glB_of og).1) (bt_nm gx (by decide +kernel)) pa_w (star1 (okEs_stars oe))) hq) fun xs h1 vs H1 g1 e1 s1 p1 r1 => ?_
    cases e : evIt .enum xs with
    | none => exact trivial
    | some items =>
      obtain ⟨ys, hxs, rfl⟩ : ∃ ys, (xs = [.d (.list ys)] ∨ xs = [.d (.tuple ys)]) ∧ items = pairs 0 ys := by
        rcases evIt_some e with z | z | z | z | z <;> first | (cases z.1; done) | exact z.2
      rcases hxs with rfl | rfl
      · obtain ⟨v, rfl, r⟩ := one_of r1
        simp only [VlR, Rp] at r
        obtain ⟨a, ws, rfl, hz, rl⟩ := r
        exact fun Q hQ => .inl ⟨a, ws, rfl, .of (s1.sub _ _ hz), hQ _ H1 g1 s1 Pres.refl (gx.hK ▸ wk_enum hz rl)⟩
      · obtain ⟨v, rfl, r⟩ := one_of r1
        simp only [VlR, Rp] at r
        obtain ⟨a, ws, rfl, hz, rl⟩ := r
        exact fun Q hQ => .inr ⟨a, ws, rfl, gx.hK ▸ sqT_mono s1.sub hz, hQ _ H1 g1 s1 Pres.refl (gx.hK ▸ wk_enumT hz rl)⟩
  · rw [Bool.and_eq_true, Bool.and_eq_true, Bool.and_eq_true] at ok
    obtain ⟨⟨⟨ex, og⟩, oe⟩, ot⟩ := ok
    have ex := of_decide_eq_true ex
    subst ex
    obtain ⟨elts, kk, tpos, rfl⟩ := tupT ot
    have st1 := okEs_stars oe
    rw [noStars, Bool.and_eq_true] at st1
    refine SR.bind (w2 := fun vs H1 (Q : L2.It → Hp → Prop) => ∃ a b xs ys, vs = [V.ref a, V.ref b] ∧ SqL X.K H1 a xs ∧ SqL X.K H1 b ys ∧ Q (Itz X.K a b) H1) (q1 _ oe)
      (fun Q hq => wI_of (pi_zip (gx.gl' (glB_of og).1) (bt_nm gx (by decide +kernel)) pa_w (star_cons st1.1) (star_any st1.2)) hq) fun xs h1 vs H1 g1 e1 s1 p1 r1 => ?_
    cases e : evIt .zip xs with
    | none => exact trivial
    | some items =>
      obtain ⟨ys, zs, rfl, rfl⟩ : ∃ ys zs, xs = [.d (.list ys), .d (.list zs)] ∧ items = zips ys zs := by
        rcases evIt_some e with z | z | z | z | z <;> first | (cases z.1; done) | exact z.2
      obtain ⟨v, u, rfl, r, r2⟩ := two_of r1
      simp only [VlR, Rp] at r r2
      obtain ⟨a, ws, rfl, hz, rl⟩ := r
      obtain ⟨b, ws2, rfl, hz2, rl2⟩ := r2
      exact fun Q hQ => ⟨a, b, ws, ws2, rfl, .of (s1.sub _ _ hz), .of (s1.sub _ _ hz2), hQ _ H1 g1 s1 Pres.refl (gx.hK ▸ wk_zip hz rl hz2 rl2)⟩
  · rw [Bool.and_eq_true] at ok
    obtain ⟨oe, os⟩ := ok
    refine SR.bind (w2 := fun v H1 (Q : L2.It → Hp → Prop) => (∃ a, v = V.ref a ∧ (((∃ xs, SqL X.K H1 a xs) ∧ Q (Itl X.K a) H1) ∨ ((∃ xs, SqT X.K H1 a xs) ∧ Q (Itt X.K a) H1))) ∨ ∃ t, v = V.str t ∧ Q (Its t) H1) (q0 _ rfl oe)
      (fun Q hq => wI_of (pi_seq pe_w) hq) fun xs h1 v H1 g1 e1 s1 p1 r1 => ?_
    obtain ⟨x, rfl, r⟩ := r1
    cases e : evIt .seq [x] with
    | none => exact trivial
    | some items =>
      obtain ⟨d, ys, ex, e2, rfl⟩ : ∃ d ys, [x] = [.d d] ∧ seqD d = some ys ∧ items = ys.map .d := by
        rcases evIt_some e with z | z | z | z | z <;> first | (cases z.1; done) | exact z.2
      cases ex
      unfold seqD at e2
      split at e2
      · cases e2
        simp only [VlR, Rp] at r
        obtain ⟨a, ws, rfl, hz, rl⟩ := r
        exact fun Q hQ => .inl ⟨a, rfl, .inr ⟨⟨ws, gx.hK ▸ sqT_mono s1.sub hz⟩, hQ _ H1 g1 s1 Pres.refl (gx.hK ▸ wk_tup hz rl)⟩⟩
      · cases e2
        simp only [VlR, Rp] at r
        obtain ⟨a, ws, rfl, hz, rl⟩ := r
        exact fun Q hQ => .inl ⟨a, rfl, .inl ⟨⟨ws, .of (s1.sub _ _ hz)⟩, hQ _ H1 g1 s1 Pres.refl (gx.hK ▸ wk_list hz rl)⟩⟩
      · cases e2
        simp only [VlR, Rp] at r
        subst r
        exact fun Q hQ => .inr ⟨_, rfl, hQ _ H1 g1 s1 Pres.refl wk_str⟩
      · cases e2
  · cases ok
end
end Mi
/-! Mi: comprehensions; all expressions. -/
namespace Mi
open PySem PySem.Spec PyProof.Rows L2
section
variable {pg : Pg} {tb : Tb} {G : Nat → Option PyData} {C : Cf} {n : Nat} {X : Cx} {c : Cd} {g : Gh} {H : Hp} {σ : Sg} {h : Sh} {env : En}

theorem EnR.unset {K : PySem.W.Frag} (r : EnR K g H env σ) {i : Nat} {o : Option V} : EnR K g H (env.set i .no) (σ.set i o) := by
  refine ⟨by rw [List.length_set, List.length_set]; exact r.len, fun j s e => ?_, fun j k xs ys a e1 e2 e3 e4 => ?_⟩
  · by_cases hj : j = i
    · subst hj
      have hl : j < env.length := by
        have := (List.getElem?_eq_some_iff.mp e).1
        rw [List.length_set] at this
        exact this
      rw [List.getElem?_set_self hl] at e
      cases e
      exact ⟨o, by rw [List.getElem?_set_self (by rw [← r.len]; exact hl)], trivial⟩
    · rw [List.getElem?_set_ne (Ne.symm hj)] at e
      obtain ⟨u, q1, q2⟩ := r.at_ j s e
      exact ⟨u, by rw [List.getElem?_set_ne (Ne.symm hj)]; exact q1, q2⟩
  · have key : ∀ {j : Nat} {xs : List PyData}, (env.set i .no)[j]? = some (.own xs) → j ≠ i := fun {j xs} e z => by
      subst z
      have hl : j < env.length := by
        have := (List.getElem?_eq_some_iff.mp e).1
        rw [List.length_set] at this
        exact this
      rw [List.getElem?_set_self hl] at e
      cases e
    have hj := key e1
    have hk := key e2
    rw [List.getElem?_set_ne (Ne.symm hj)] at e1 e3
    rw [List.getElem?_set_ne (Ne.symm hk)] at e2 e4
    exact r.dist j k xs ys a e1 e2 e3 e4
theorem EnR.wipe {K : PySem.W.Frag} (r : EnR K g H env σ) : ∀ ws : List Nat, EnR K g H (wipeE ws env) (L2.wipe σ ws)
  | [] => r
  | w :: ws => (EnR.wipe r ws).unset
theorem wipe_wipe (σ : Sg) : ∀ ws vs : List Nat, (∀ i ∈ vs, i ∈ ws) → L2.wipe (L2.wipe σ vs) ws = L2.wipe σ ws
  | ws, [], _ => rfl
  | ws, v :: vs, m => by
    show L2.wipe ((L2.wipe σ vs).set v none) ws = _
    rw [bindIs_ok.wipe_set (m v List.mem_cons_self), wipe_wipe σ ws vs fun i hi => m i (List.mem_cons_of_mem _ hi)]
/-- a list that stands apart is changed -/
theorem Sim.apart (s : Sim pg.K g h H) {a : Addr} (z : g.Z a = none) (ni : a ∉ g.ι) (o : HO) : Sim pg.K g h (upd H a o) := by
  refine ⟨fun b u e => ?_, s.nd, s.len, s.out, fun k u e => ?_⟩
  · rw [upd_ne (fun y => by rw [y, z] at e; cases e)]
    exact s.sub _ _ e
  · obtain ⟨b, e1, r⟩ := s.obj k u e
    refine ⟨b, e1, ?_⟩
    have hb : b ≠ a := fun y => ni (y ▸ List.mem_of_getElem? e1)
    cases u with
    | lst xs =>
      obtain ⟨vs, q, r⟩ := r
      exact ⟨vs, by rw [upd_ne hb]; exact q, r⟩
theorem Pres.apart {g0 : Gh} {H0 : Hp} (p : Pres g0 H0 g H) {a : Addr} (n0 : H0 a = none) (o : HO) : Pres g0 H0 g (upd H a o) := by
  refine ⟨p.z, p.i, fun b u e nb => ?_⟩
  obtain ⟨k1, k2, k3⟩ := p.k b u e nb
  exact ⟨by rw [upd_ne (fun y => by rw [y, n0] at e; cases e)]; exact k1, k2, k3⟩

theorem noEx_ok {α : Type} {r : R α} {a : α} {h' : Sh} (e : noEx r = .ok a h') : r = .ok a h' := by
  cases r <;> simp [noEx] at e ⊢ <;> first | exact e | cases e
theorem bind_ok {α β : Type} {r : R α} {f : α → Sh → R β} {b : β} {h' : Sh} (e : r.bind f = .ok b h') : ∃ a h1, r = .ok a h1 ∧ f a h1 = .ok b h' := by
  cases r with
  | ok a h1 => exact ⟨a, h1, rfl, e⟩
  | ex _ _ => cases e
  | no => cases e
theorem compLoop_noEx {tg : Tg} {cond : En → Sh → R Bool} {elt : En → Sh → R Vl} {env : En} : ∀ (xs : List Vl) (h : Sh) (x : Er) (h' : Sh), compLoop tg cond elt env xs h ≠ .ex x h'
  | [], _, _, _ => fun e => by rw [compLoop] at e; cases e
  | y :: xs, h, x, h' => fun e => by
    rw [compLoop] at e
    split at e
    · cases e
    · rename_i env' _
      cases q : noEx (cond env' h) with
      | no => rw [q] at e; cases e
      | ex _ _ => cases q2 : cond env' h <;> rw [q2] at q <;> cases q
      | ok b h1 =>
        rw [q] at e
        simp only [R.bind] at e
        split at e
        · cases q2 : noEx (elt env' h1) with
          | no => rw [q2] at e; cases e
          | ex _ _ => cases q3 : elt env' h1 <;> rw [q3] at q2 <;> cases q2
          | ok z h2 =>
            rw [q2] at e
            cases z with
            | d z =>
              simp only at e
              cases q4 : compLoop tg cond elt env xs h2 with
              | ok _ _ => rw [q4] at e; cases e
              | no => rw [q4] at e; cases e
              | ex x2 h3 => exact compLoop_noEx xs h2 x2 h3 q4
            | _ => cases e
        · exact compLoop_noEx xs h1 x h' e

/-- a block's context -/
theorem GX.blk (gx : GX X c pg tb G C n) {scope : Scope} (kd : scope.kind = .function) (s0 : Shared) (H0 : Hp) (C0 : Addr) (cl : List (Str × Addr)) (fp : List Addr) :
    GX (X.blk s0 H0 scope (compEnvC scope cl C0 X.env) fp) (cdC c scope) pg tb G C n :=
  ⟨gx.hP, gx.hw, gx.hK, gx.hm, gx.hb, gx.N, gx.nd, by rw [cdC, ← gx.sc]; rfl, kd, rfl, gx.calm, PassesOwn.never, gx.room, gx.gd, gx.gl, gx.bt, gx.ct, gx.cl⟩
def wCs (X : Cx) (ifs : List Expr) (σ : Sg) (H : Hp) (Q : Bool → Hp → Prop) : Prop := ∀ (pins : List (Addr × Obj)) (s : Shared), Inv X pins σ H s →
  wpAny (model X.prog X.w) X.A (forIn ifs true fun c r => if r = true then do let ok ← isTrue c X.env (eval c X.env); pure (ForInStep.yield ok) else pure (ForInStep.yield r)) (TP X pins σ Q) X.xe s
theorem SL.compT {elt : Te} {tg : Tg} {k : Mi.It} {es cs : List Te} {elt' tg' it' : Expr} {ifs' : List Expr} {scope : Scope} {pos : Pos} (gx : GX X c pg tb G C n) (bk : blkC c.N c.sc scope (tgOwn tg tg') = true) (ot : tgB (cdC c scope) tg tg' = true)
    (on : (tgOwn tg tg').map (·.2) = tg.names) (ns : noSet it' = true) (s : Sim pg.K g h H) (en : EnR pg.K g H env σ)
    (q1 : SR pg X σ g H (fun g _ items J => Wk pg.K g items J) (itR C G k es env h) (wI X tg' it' σ H))
    (qc : ∀ X', GX X' (cdC c scope) pg tb G C n → ∀ env h σ g H, Sim pg.K g h H → EnR pg.K g H env σ → SR pg X' σ g H (fun _ _ (a b : Bool) => a = b) (evC C G cs env h) (wCs X' ifs' σ H))
    (qe : ∀ X', GX X' (cdC c scope) pg tb G C n → ∀ env h σ g H, Sim pg.K g h H → EnR pg.K g H env σ → SR pg X' σ g H (VlRel pg.K) (evE C G elt env h) (wE X' elt' σ H)) :
    SR pg X σ g H (NwR pg.K H) (evL C G (.comp elt tg k es cs) env h) (tLc (wI X tg' it') (gOf pg.K tg) (fun σ H Q => ∀ s0 H0 C0 cl fp, wCs (X.blk s0 H0 scope (compEnvC scope cl C0 X.env) fp) ifs' σ H Q) (fun σ H Q => ∀ s0 H0 C0 cl fp, wE (X.blk s0 H0 scope (compEnvC scope cl C0 X.env) fp) elt' σ H Q) tg.names σ H) := by
  have e0 : evL C G (.comp elt tg k es cs) env h = (itR C G k es env h).bind fun items h1 => if items.length ≤ SZ then compLoop tg (evC C G cs) (evE C G elt) (wipeE tg.names env) items h1 else .no := by
    rw [evL]
    unfold itR
    cases evEs C G es env h with
    | no => rfl
    | ex _ _ => rfl
    | ok xs h1 =>
      show (match evIt k xs with | some items => _ | none => _) = R.bind (match evIt k xs with | some items => _ | none => _) _
      cases evIt k xs <;> rfl
  rw [e0]
  have blk := blkOk_by bk
  have nst : (∃ is r, tg = .st is r) → False := fun ⟨is, r, e⟩ => by subst e; cases tg' <;> cases ot
  cases q : itR C G k es env h with
  | no => exact trivial
  | ex x h' =>
    rw [q] at q1
    exact fun W tk hW Q => q1 W tk hW _
  | ok items h1 =>
    rw [q] at q1
    show SR pg X σ g H (NwR pg.K H) (if items.length ≤ SZ then compLoop tg (evC C G cs) (evE C G elt) (wipeE tg.names env) items h1 else .no) _
    split
    · rename_i hsz
      cases ql : compLoop tg (evC C G cs) (evE C G elt) (wipeE tg.names env) items h1 with
      | no => exact trivial
      | ex x h' => exact (compLoop_noEx _ _ _ _ ql).elim
      | ok ys h' =>
        refine fun Q hQ => q1 _ fun J H1 g1 s1 p1 wk D nD => ?_
        obtain ⟨s2, p2, zD, iD⟩ := s1.loose nD (.lst [])
        refine ⟨fun i m Hc => m = items.length - i ∧ i ≤ items.length ∧ ∃ gc hc done vs rest, Sim pg.K gc hc Hc ∧ Pres g1 H1 gc Hc ∧ gc.Z D = none ∧ D ∉ gc.ι ∧ Hc D = some (.lst vs) ∧ RpL pg.K gc.Z done vs ∧
          compLoop tg (evC C G cs) (evE C G elt) (wipeE tg.names env) (items.drop i) hc = .ok rest h' ∧ done ++ rest = ys ∧ vs.length ≤ i,
          ⟨items.length, by omega, Nat.zero_le _, g1, h1, [], [], ys, s2, p2, zD, iD, upd_same, RpL.nil, ql, rfl, Nat.le_refl _⟩, ?_⟩
        rintro i m Hc ⟨rfl, hi, gc, hc, done, vs, rest, sc, pc, zc, ic, eD, rl, el, ey, hv⟩
        by_cases hlt : i < items.length
        · refine .inr ⟨wk.go i gc hc Hc sc pc.z hlt, fun H' => ∃ gc hc done vs rest, Sim pg.K gc hc H' ∧ Pres g1 H1 gc H' ∧ gc.Z D = none ∧ D ∉ gc.ι ∧ H' D = some (.lst vs) ∧ RpL pg.K gc.Z done vs ∧
            compLoop tg (evC C G cs) (evE C G elt) (wipeE tg.names env) (items.drop (i + 1)) hc = .ok rest h' ∧ done ++ rest = ys ∧ vs.length ≤ i + 1,
            fun H' hN => ⟨items.length - (i + 1), by omega, rfl, hlt, hN⟩, fun x' H' y => ?_⟩
          obtain ⟨g', y', ei, s', p', ry⟩ := wk.yld i gc hc Hc x' H' sc pc.z hlt y
          obtain ⟨kD, niD, zD'⟩ := p'.k D _ eD ic
          have zD' := zD' zc
          have edrop : items.drop i = y' :: items.drop (i + 1) := by
            rw [List.drop_eq_getElem_cons hlt]
            have := List.getElem?_eq_getElem hlt
            rw [ei] at this
            cases this
            rfl
          rw [edrop, compLoop] at el
          cases eb : bindTg tg y' (wipeE tg.names env) with
          | none => rw [eb] at el; cases el
          | some env' =>
            rw [eb] at el
            obtain ⟨b, h2, ec, el⟩ := bind_ok el
            have ec := noEx_ok ec
            have pall := pc.trans p'
            have enw : EnR pg.K g' H' (wipeE tg.names env) (L2.wipe σ tg.names) := (en.mono (p1.trans pall)).wipe _
            refine tg_ok nst eb s' ry enw fun σ' en' wp => ⟨?_, ?_⟩
            · rw [wp _ fun _ m => m, wipe_wipe _ _ _ fun _ m => m]
            · intro s0 H0 C0 cl fp
              have qc' := qc _ (gx.blk blk.kind s0 H0 C0 cl fp) env' hc σ' g' H' s' en'
              rw [ec] at qc'
              refine qc' _ fun b' H3 g3 s3 p3 rb => ?_
              subst rb
              obtain ⟨k3, n3, z3⟩ := p3.k D _ kD niD
              have z3 := z3 zD'
              cases b with
              | false =>
                rw [if_neg (by decide)]
                rw [if_neg (by decide)] at el
                exact ⟨g3, h2, done, vs, rest, s3, pall.trans p3, z3, n3, k3, RpL.mono (p'.trans p3).z _ _ rl, el, ey, by omega⟩
              | true =>
                rw [if_pos rfl] at el ⊢
                obtain ⟨z, h3, ee, el⟩ := bind_ok el
                have ee := noEx_ok ee
                cases z with
                | d z =>
                  obtain ⟨zs, h4, ef, el⟩ := bind_ok el
                  cases el
                  intro s0 H0 C0 cl fp
                  have qe' := qe _ (gx.blk blk.kind s0 H0 C0 cl fp) env' h2 σ' g3 H3 s3 (en'.mono p3)
                  rw [ee] at qe'
                  refine qe' _ fun v H4 g4 s4 p4 rv => ?_
                  obtain ⟨k4, n4, z4⟩ := p4.k D _ k3 n3
                  have z4 := z4 z3
                  refine ⟨vs, k4, by rw [← szL]; omega, g4, h3, done ++ [z], vs ++ [v], zs, s4.apart z4 n4 _, ((pall.trans p3).trans p4).apart nD _, z4, n4, upd_same, ?_, ef, by rw [List.append_assoc]; exact ey, by rw [List.length_append, List.length_singleton]; omega⟩
                  exact (RpL.mono ((p'.trans p3).trans p4).z _ _ rl).append (RpL.cons rv RpL.nil)
                | _ => cases el
        · have ei : i = items.length := by omega
          subst ei
          refine .inl ⟨wk.stop gc hc Hc sc pc.z, ?_⟩
          rw [List.drop_length, compLoop] at el
          cases el
          rw [List.append_nil] at ey
          subst ey
          refine hQ _ Hc gc sc (p1.trans pc) ⟨D, vs, rfl, eD, zc, ic, rl, ?_⟩
          cases n0 : H D with
          | none => rfl
          | some u =>
            by_cases mD : D ∈ g.ι
            · obtain ⟨t, et⟩ := (p1.trans pc).i
              exact (ic (by rw [et]; exact List.mem_append_left _ mD)).elim
            · have := (p1.k D u n0 mD).1
              rw [nD] at this; cases this
    · exact trivial
theorem SL.comp {elt : Te} {tg : Tg} {k : Mi.It} {es cs : List Te} {elt' tg' it' : Expr} {ifs' : List Expr} {scope : Scope} {pos : Pos} (gx : GX X c pg tb G C n) (bk : blkC c.N c.sc scope (tgOwn tg tg') = true) (ot : tgB (cdC c scope) tg tg' = true)
    (on : (tgOwn tg tg').map (·.2) = tg.names) (ns : noSet it' = true) (s : Sim pg.K g h H) (en : EnR pg.K g H env σ)
    (q1 : SR pg X σ g H (fun g _ items J => Wk pg.K g items J) (itR C G k es env h) (wI X tg' it' σ H))
    (qc : ∀ X', GX X' (cdC c scope) pg tb G C n → ∀ env h σ g H, Sim pg.K g h H → EnR pg.K g H env σ → SR pg X' σ g H (fun _ _ (a b : Bool) => a = b) (evC C G cs env h) (wCs X' ifs' σ H))
    (qe : ∀ X', GX X' (cdC c scope) pg tb G C n → ∀ env h σ g H, Sim pg.K g h H → EnR pg.K g H env σ → SR pg X' σ g H (VlRel pg.K) (evE C G elt env h) (wE X' elt' σ H)) :
    SR pg X σ g H (NwR pg.K H) (evL C G (.comp elt tg k es cs) env h) (wE X (.ListComp elt' [⟨tg', it', ifs', 0⟩] scope pos) σ H) := by
  have blk := blkOk_by bk
  have rule := pe_lc (X := X) (pos := pos) (elt := elt') (tg := tg') (iter := it') (ifs := ifs') (g := gOf pg.K tg)
    (tt := fun σ H Q => ∀ s0 H0 C0 cl fp, wCs (X.blk s0 H0 scope (compEnvC scope cl C0 X.env) fp) ifs' σ H Q) (te := fun σ H Q => ∀ s0 H0 C0 cl fp, wE (X.blk s0 H0 scope (compEnvC scope cl C0 X.env) fp) elt' σ H Q)
    gx.calm (by rw [gx.N]; exact gx.nd) pi_w (by rw [gx.N, gx.sc]; exact blk) (fun s0 H0 C0 cl fp => pg_of (gx.blk blk.kind s0 H0 C0 cl fp) ot) (fun s0 H0 C0 cl fp => ⟨fun pins s σ H Q I q => q s0 H0 C0 cl fp pins s I⟩)
    (fun s0 H0 C0 cl fp => ⟨fun pins s σ H Q I q => q s0 H0 C0 cl fp pins s I⟩) (folded_of ns)
  rw [on] at rule
  exact (SL.compT (pos := pos) gx bk ot on ns s en q1 qc qe).imp fun Q hq => wE_of rule hq
end
end Mi
/-! Mi: all expressions. -/
namespace Mi
open PySem PySem.Spec PyProof.Rows L2

/-! ### x[::-1] -/
section
variable {prog : Program} {w : World} {A : Around} {E : Value → Shared → Prop} {s : Shared}
theorem adjust_rev (n : Nat) : Builtin.Slice.sliceAdjust none none (-1) (n : Int) = ((n : Int) - 1, -1) := rfl
theorem places_rev (n : Nat) : Builtin.Slice.slicePlaces ((n : Int) - 1) (-1) (-1) = n := by
  unfold Builtin.Slice.slicePlaces
  have h1 : ¬ ((-1 : Int) > 0) := by omega
  simp only [h1, if_false]
  split
  · have : (- -1 : Int) = 1 := rfl
    rw [this, Int.ediv_one]
    omega
  · omega
theorem fm_congr {α β : Type} {f g : α → Option β} : ∀ {l : List α}, (∀ x ∈ l, f x = g x) → l.filterMap f = l.filterMap g
  | [], _ => rfl
  | a :: l, h => by rw [List.filterMap_cons, List.filterMap_cons, h a List.mem_cons_self, fm_congr fun x hx => h x (List.mem_cons_of_mem _ hx)]
theorem pick_rev (xs : Array Value) : ((List.range xs.size).filterMap fun (m : Nat) => xs[((xs.size : Int) - 1 + (m : Int) * -1).toNat]?) = xs.toList.reverse := by
  apply List.ext_getElem?
  intro i
  have key : ∀ k, k ≤ xs.size → (List.range k).filterMap (fun (m : Nat) => xs[((xs.size : Int) - 1 + (m : Int) * -1).toNat]?) = (List.range k).filterMap fun m => xs.toList.reverse[m]? := by
    intro k hk
    refine fm_congr fun m hm => ?_
    have hm := List.mem_range.mp hm
    have e : ((xs.size : Int) - 1 + (m : Int) * -1).toNat = xs.size - 1 - m := by omega
    rw [e, List.getElem?_reverse (by simpa using Nat.lt_of_lt_of_le hm hk)]
    simp
  rw [key _ (Nat.le_refl _)]
  have : ∀ (l : List Value), (List.range l.length).filterMap (fun m => l[m]?) = l := by
    intro l
    induction l with
    | nil => rfl
    | cons a t ih =>
      rw [List.length_cons, List.range_succ_eq_map, List.filterMap_cons]
      simp only [List.getElem?_cons_zero]
      rw [List.filterMap_map]
      congr 1
  have h2 := this xs.toList.reverse
  rw [List.length_reverse, Array.length_toList] at h2
  rw [h2]
theorem getItem_tuple_rev {t sl : Addr} {items : Array Value} {vl vu vs : Value} {Q : Value → Shared → Prop} (ht : IsTup s.heap t items) (hs : s.heap.IsSliceOf sl vl vu vs) (pl : IsPart vl none) (pu : IsPart vu none) (ps : IsPart vs (some (-1)))
    (h : Q (.ref s.heap.objs.size) { s with heap := s.heap.push { cls := .type "tuple", data := .seq items.toList.reverse.toArray } })
    (hsz : items.size ≤ sizeLine) : wpAny (model prog w) A (getItem (.ref t) (.ref sl)) Q E s := by
  have htake : sizeOk (.seq items.toList.reverse.toArray) := by
    show items.toList.reverse.toArray.size ≤ sizeLine
    rw [List.size_toArray, List.length_reverse, Array.length_toList]
    exact hsz
  obtain ⟨os, hos, hcs, hds⟩ := id hs
  have hTs : s.TypeIs (.ref sl) "slice" := ⟨os, hos, hcs⟩
  unfold getItem
  try with_reducible refine wpAny_holding ?_
  first | refine wpAny_bind (wpAny_pure ?_) | skip
  refine wpAny_bind (wpAny_sequenceKey ht.typeIs (by decide) ?_)
  refine wpAny_bind (wpAny_callSpecial?_slot (name := Str.ofString "__getitem__") ht.typeIs PyProof.Rows.slot_tuple_getitem
    (wpAny_call_entry PyProof.Rows.slot_tuple_getitem ht.typeIs entry_tuple_getitem ?_ (args_tuple_getitem _ _)))
  show wpAny _ _ (Builtin.Tuple.tupleItemsOf (.ref t) >>= _) _ _ s
  refine wpAny_bind (tupleItemsOf_ ht ?_)
  refine wpAny_bind (wpAny_typeOf hTs ?_)
  rw [if_pos (by decide)]
  refine wpAny_bind (show wpAny _ _ (Builtin.Slice.sliceApplied (.ref sl) (pure (items.size : Int))) _ _ s from ?_)
  unfold Builtin.Slice.sliceApplied Builtin.Slice.sliceFields
  refine wpAny_bind (wpAny_bind (wpAny_field hos hds (x := vl) rfl (wpAny_bind (wpAny_field hos hds (x := vu) rfl (wpAny_bind (wpAny_field hos hds (x := vs) rfl (wpAny_pure ?_)))))))
  refine wpAny_bind (HT.slicePart_ ps ?_)
  show wpAny _ _ (if ((-1 : Int) == 0) = true then _ else _) _ _ s
  rw [if_neg (by decide)]
  refine wpAny_bind (HT.slicePart_ pl (wpAny_bind (HT.slicePart_ pu (wpAny_bind (wpAny_pure ?_)))))
  show wpAny _ _ (match Builtin.Slice.sliceAdjust none none (-1) (items.size : Int) with | (lo, hi) => pure (lo, (-1 : Int), Builtin.Slice.slicePlaces lo hi (-1))) _ _ s
  rw [adjust_rev]
  show wpAny _ _ (pure ((items.size : Int) - 1, (-1 : Int), Builtin.Slice.slicePlaces ((items.size : Int) - 1) (-1) (-1))) _ _ s
  rw [places_rev]
  refine wpAny_pure ?_
  have hno : ¬ ((((items.size : Int) - 1) == 0 && (-1 : Int) == 1 && items.size == items.size) = true) := by
    intro q
    rw [Bool.and_eq_true, Bool.and_eq_true] at q
    exact absurd q.1.2 (by decide)
  show wpAny _ _ (if (((items.size : Int) - 1) == 0 && (-1 : Int) == 1 && items.size == items.size) = true then _ else _) _ _ s
  rw [if_neg hno, pick_rev]
  first
    | exact wpAny_bind (m := Builtin.Tuple.tupleExact _) (wpAny_newObj_type (wpAny_pure ⟨_, rfl, wpAny_pure h⟩) htake)
    | exact wpAny_bind (m := Builtin.Tuple.tupleExact _) (wpAny_newObj_type (wpAny_bind (wpAny_pure (wpAny_pure ⟨_, rfl, wpAny_pure h⟩))) htake)
    | exact wpAny_bind (wpAny_bind (m := Builtin.Tuple.tupleExact _) (wpAny_newObj_type (wpAny_pure (wpAny_pure ⟨_, rfl, wpAny_pure h⟩)) htake))
    | exact wpAny_bind (wpAny_bind (m := Builtin.Tuple.tupleExact _) (wpAny_newObj_type (wpAny_pure ⟨_, rfl, wpAny_pure h⟩) htake))
end
def tRevT (K : PySem.W.Frag) (te : TE) : TE := fun σ H Q => te σ H fun x H1 => ∃ a xs, x = .ref a ∧ SqT K H1 a xs ∧ ∀ p, H1 p = none → Q (.ref p) (upd H1 p (.tup xs.reverse))
theorem pe_revT {X : Cx} {e : Expr} {te : TE} {k : Nat} {p1 p2 p3 pos : Pos} (he : PE X e te) : PE X (.Subscript e (.Slice none none (some (.UnaryOp .USub (.Constant (.int 1) k p1) p2)) p3) pos) (tRevT X.K te) := by
  refine ⟨fun pins s σ H Q I h => ?_⟩
  refine Subscript_ (thn (he.run pins s σ H _ I h) fun v s1 ⟨x, H1, I1, r1, q1⟩ => ?_)
  obtain ⟨a, xs, ex, hx, q⟩ := q1
  subst ex
  cases r1
  have hst : PO X (some (.UnaryOp .USub (.Constant (.int 1) k p1) p2)) (tPart (tUn (rU fun i => .int (-i)) (tC (.int 1)))) := po_some (pe_un un_neg pe_int)
  refine wpAny_Slice (thn (po_none.run pins s1 σ H1 (fun o H2 => o = none ∧ H2 = H1) I1 ⟨rfl, rfl⟩) fun vl s2 ⟨l, H2, I2, pl, el, e2⟩ => ?_)
  subst el e2
  refine thn (po_none.run pins s2 σ H2 (fun o H3 => o = none ∧ H3 = H2) I2 ⟨rfl, rfl⟩) fun vu s3 ⟨u, H3, I3, pu, eu, e3⟩ => ?_
  subst eu e3
  refine thn (hst.run pins s3 σ H3 (fun o H4 => o = some (-1) ∧ H4 = H3) I3 ⟨1, rfl, -1, rfl, rfl, rfl⟩) fun vs s4 ⟨o, H4, I4, ps, eo, e4⟩ => ?_
  subst eo e4
  have I5 : Inv X pins σ H4 { s4 with heap := s4.heap.push { cls := .type "slice", data := .fields #[vl, vu, vs] } } := I4.kept (t' := s4.toks) fun b ob q => Heap.get?_push_of_some _ q
  obtain ⟨its, r, ht, hz⟩ := I5.tuple hx
  have hlen := r.length
  show wpAny (model X.prog X.w) X.A (subscriptTail e (.Slice none none (some (.UnaryOp .USub (.Constant (.int 1) k p1) p2)) p3) (.ref a) (.ref s4.heap.objs.size)) (EP X pins σ Q) X.xe { s4 with heap := s4.heap.push { cls := .type "slice", data := .fields #[vl, vu, vs] } }
  refine tail_any (ops := [.ref a, .ref s4.heap.objs.size]) ht.typeIs (PyProof.Rows.slot_tuple_getitem.lookup) ?_ (by with_unfolding_all rfl)
  refine getItem_tuple_rev ht (Heap.IsSliceOf.new _ vl vu vs) pl pu ps ?_ (by rw [List.size_toArray]; omega)
  refine ⟨.ref _, _, I5.laid (t' := s4.toks) (o := .tup xs.reverse) (fun b ob q => Heap.get?_push_of_some _ q) (Nat.le_refl _) ?_, rfl, q _ (I5.hok.fresh (Nat.le_refl _))⟩
  exact ⟨by rw [List.length_reverse]; exact hz, _, r.reverse, IsTup.new _ _⟩

section
variable {pg : Pg} {tb : Tb} {G : Nat → Option PyData} {C : Cf} {n : Nat} {X : Cx} {c : Cd} {g : Gh} {H : Hp} {σ : Sg} {h : Sh} {env : En}
theorem SE.rev {a : Te} {ea : Expr} {j : Nat} {p1 p2 p3 pos : Pos} {Ra : Gh → Hp → Vl → V → Prop} (gx : GX X c pg tb G C n) (ha : ∀ g H x v, Ra g H x v → PkR pg.K g H x v)
    (q1 : SR pg X σ g H Ra (evE C G a env h) (wE X ea σ H)) :
    SR pg X σ g H (VlRel pg.K) (evE C G (.rev a) env h) (wE X (.Subscript ea (.Slice none none (some (.UnaryOp .USub (.Constant (.int 1) j p1) p2)) p3) pos) σ H) := by
  rw [evE]
  refine SR.bind (w2 := fun x H1 (Q : VK) => (∃ a xs, x = .ref a ∧ SqL X.K H1 a xs ∧ ∀ p, H1 p = none → Q (.ref p) (upd H1 p (.lst xs.reverse))) ∨ (∃ a xs, x = .ref a ∧ SqT X.K H1 a xs ∧ ∀ p, H1 p = none → Q (.ref p) (upd H1 p (.tup xs.reverse))) ∨ (∃ a, x = .str a ∧ a.length ≤ sizeLine ∧ Q (.str ⟨a.cps.toList.reverse.toArray⟩) H1)) q1 (fun Q hq => ?_) fun x h1 v H1 g1 _ s1 p1 r1 => ?_
  · intro pins s I
    have both : PE X (.Subscript ea (.Slice none none (some (.UnaryOp .USub (.Constant (.int 1) j p1) p2)) p3) pos) (fun σ H Q => wE X ea σ H fun x H1 => (∃ a xs, x = .ref a ∧ SqL X.K H1 a xs ∧ ∀ p, H1 p = none → Q (.ref p) (upd H1 p (.lst xs.reverse))) ∨ (∃ a xs, x = .ref a ∧ SqT X.K H1 a xs ∧ ∀ p, H1 p = none → Q (.ref p) (upd H1 p (.tup xs.reverse))) ∨ (∃ a, x = .str a ∧ a.length ≤ sizeLine ∧ Q (.str ⟨a.cps.toList.reverse.toArray⟩) H1)) := by
      refine ⟨fun pins s σ H Q I h => ?_⟩
      -- run the operand, then whichever rule fits
      refine Subscript_ (thn (h pins s I) fun v s1 ⟨x, H1, I1, r1, q1⟩ => ?_)
      rcases q1 with q1 | q1 | q1
      rotate_left 2
      · obtain ⟨a, ex, hx, q⟩ := q1
        subst ex
        obtain ⟨t, rfl⟩ := r1
        have hst : PO X (some (.UnaryOp .USub (.Constant (.int 1) j p1) p2)) (tPart (tUn (rU fun i => .int (-i)) (tC (.int 1)))) := po_some (pe_un un_neg pe_int)
        refine wpAny_Slice (thn (po_none.run pins s1 σ H1 (fun o H2 => o = none ∧ H2 = H1) I1 ⟨rfl, rfl⟩) fun vl s2 ⟨l, H2, I2, pl, el, e2⟩ => ?_)
        subst el e2
        refine thn (po_none.run pins s2 σ H2 (fun o H3 => o = none ∧ H3 = H2) I2 ⟨rfl, rfl⟩) fun vu s3 ⟨u, H3, I3, pu, eu, e3⟩ => ?_
        subst eu e3
        refine thn (hst.run pins s3 σ H3 (fun o H4 => o = some (-1) ∧ H4 = H3) I3 ⟨1, rfl, -1, rfl, rfl, rfl⟩) fun vs s4 ⟨o, H4, I4, ps, eo, e4⟩ => ?_
        subst eo e4
        have I5 : Inv X pins σ H4 { s4 with heap := s4.heap.push { cls := .type "slice", data := .fields #[vl, vu, vs] } } := I4.kept (t' := s4.toks) fun b ob q => Heap.get?_push_of_some _ q
        obtain ⟨l, rfl, hl⟩ := IsPart.raw pl
        obtain ⟨u, rfl, hu⟩ := IsPart.raw pu
        obtain ⟨st, rfl, hst'⟩ := IsPart.raw ps
        have : l = none := Option.map_eq_none_iff.mp hl
        subst this
        have : u = none := Option.map_eq_none_iff.mp hu
        subst this
        obtain ⟨⟨k1, uk⟩, rfl, ek⟩ := Option.map_eq_some_iff.mp hst'
        have ek : k1 = -1 := ek
        subst ek
        show wpAny (model X.prog X.w) X.A (subscriptTail ea (.Slice none none (some (.UnaryOp .USub (.Constant (.int 1) j p1) p2)) p3) (.str a t) (.ref s4.heap.objs.size)) (EP X pins σ Q) X.xe { s4 with heap := s4.heap.push { cls := .type "slice", data := .fields #[.none, .none, .int (-1) uk] } }
        have er : Txt.sliceBy a none none (-1, uk) = (⟨a.cps.toList.reverse.toArray⟩ : Str) := by
          refine TL.ext_tl ?_
          show (Txt.sliceBy a none none (-1, uk)).cps.toList = a.cps.toList.reverse
          rw [step_rev_list]
          refine List.ext_getElem (by simp [Str.length]) fun i h1 h2 => ?_
          rw [List.length_reverse, Array.length_toList] at h2
          have hlt : a.length - 1 - i < a.cps.size := by
            have : a.length = a.cps.size := rfl
            omega
          rw [List.getElem_map, List.getElem_range, List.getElem_reverse, Array.getD_eq_getD_getElem?, Array.getElem?_eq_getElem hlt]
          simp [Str.length]
        refine tail_of_ItemOn ⟨"str", _, F.slot_str_getitem.lookup, typeIs_str _ _ _, wpAny_getItem_str_slice (l := none) (u := none) (st := some (-1, uk)) ⟨_, Heap.get?_push_size _ rfl, rfl, rfl⟩ rfl
          (post_val_or_str ⟨Nat.le_trans (Txt.sliceBy_le a _ _ (-1, uk) (show ((-1 : Int) ≠ 0) by decide)) hx, fun t' c => ?_⟩)⟩ (by with_unfolding_all rfl) (by intro _; cases ea <;> rfl)
        refine ⟨.str _, H4, I5.tok c, ⟨t', rfl⟩, ?_⟩
        show Q (.str (Txt.sliceBy a none none (-1, uk))) H4
        rw [er]
        exact q
      · obtain ⟨a, xs, ex, hx, q⟩ := q1
        subst ex
        cases r1
        have hst : PO X (some (.UnaryOp .USub (.Constant (.int 1) j p1) p2)) (tPart (tUn (rU fun i => .int (-i)) (tC (.int 1)))) := po_some (pe_un un_neg pe_int)
        refine wpAny_Slice (thn (po_none.run pins s1 σ H1 (fun o H2 => o = none ∧ H2 = H1) I1 ⟨rfl, rfl⟩) fun vl s2 ⟨l, H2, I2, pl, el, e2⟩ => ?_)
        subst el e2
        refine thn (po_none.run pins s2 σ H2 (fun o H3 => o = none ∧ H3 = H2) I2 ⟨rfl, rfl⟩) fun vu s3 ⟨u, H3, I3, pu, eu, e3⟩ => ?_
        subst eu e3
        refine thn (hst.run pins s3 σ H3 (fun o H4 => o = some (-1) ∧ H4 = H3) I3 ⟨1, rfl, -1, rfl, rfl, rfl⟩) fun vs s4 ⟨o, H4, I4, ps, eo, e4⟩ => ?_
        subst eo e4
        have I5 : Inv X pins σ H4 { s4 with heap := s4.heap.push { cls := .type "slice", data := .fields #[vl, vu, vs] } } := I4.kept (t' := s4.toks) fun b ob q => Heap.get?_push_of_some _ q
        obtain ⟨its, r, ht, hz⟩ := I5.list hx
        have hlen := r.length
        show wpAny (model X.prog X.w) X.A (subscriptTail ea (.Slice none none (some (.UnaryOp .USub (.Constant (.int 1) j p1) p2)) p3) (.ref a) (.ref s4.heap.objs.size)) (EP X pins σ Q) X.xe { s4 with heap := s4.heap.push { cls := .type "slice", data := .fields #[vl, vu, vs] } }
        refine tail_any (ops := [.ref a, .ref s4.heap.objs.size]) ht.isList.typeIs (PySem.slot_list_getitem.lookup) ?_ (by with_unfolding_all rfl)
        refine wpAny_getItem_list_slice ht.isList (Heap.IsSliceOf.new _ vl vu vs) pl pu ps (by decide) ?_ (by rw [List.size_toArray]; omega)
        rw [PySem.W.krv_pick]
        refine ⟨.ref _, _, I5.laid (t' := s4.toks) (o := .lst xs.reverse) (fun b ob q => Heap.get?_push_of_some _ q) (Nat.le_refl _) ?_, rfl, q _ (I5.hok.fresh (Nat.le_refl _))⟩
        exact ⟨by rw [List.length_reverse]; exact hz, _, 0, r.reverse, Heap.get?_push_size _ rfl⟩
      · obtain ⟨a, xs, ex, hx, q⟩ := q1
        subst ex
        cases r1
        have hst : PO X (some (.UnaryOp .USub (.Constant (.int 1) j p1) p2)) (tPart (tUn (rU fun i => .int (-i)) (tC (.int 1)))) := po_some (pe_un un_neg pe_int)
        refine wpAny_Slice (thn (po_none.run pins s1 σ H1 (fun o H2 => o = none ∧ H2 = H1) I1 ⟨rfl, rfl⟩) fun vl s2 ⟨l, H2, I2, pl, el, e2⟩ => ?_)
        subst el e2
        refine thn (po_none.run pins s2 σ H2 (fun o H3 => o = none ∧ H3 = H2) I2 ⟨rfl, rfl⟩) fun vu s3 ⟨u, H3, I3, pu, eu, e3⟩ => ?_
        subst eu e3
        refine thn (hst.run pins s3 σ H3 (fun o H4 => o = some (-1) ∧ H4 = H3) I3 ⟨1, rfl, -1, rfl, rfl, rfl⟩) fun vs s4 ⟨o, H4, I4, ps, eo, e4⟩ => ?_
        subst eo e4
        have I5 : Inv X pins σ H4 { s4 with heap := s4.heap.push { cls := .type "slice", data := .fields #[vl, vu, vs] } } := I4.kept (t' := s4.toks) fun b ob q => Heap.get?_push_of_some _ q
        obtain ⟨its, r, ht, hz⟩ := I5.tuple hx
        have hlen := r.length
        show wpAny (model X.prog X.w) X.A (subscriptTail ea (.Slice none none (some (.UnaryOp .USub (.Constant (.int 1) j p1) p2)) p3) (.ref a) (.ref s4.heap.objs.size)) (EP X pins σ Q) X.xe { s4 with heap := s4.heap.push { cls := .type "slice", data := .fields #[vl, vu, vs] } }
        refine tail_any (ops := [.ref a, .ref s4.heap.objs.size]) ht.typeIs (PyProof.Rows.slot_tuple_getitem.lookup) ?_ (by with_unfolding_all rfl)
        refine getItem_tuple_rev ht (Heap.IsSliceOf.new _ vl vu vs) pl pu ps ?_ (by rw [List.size_toArray]; omega)
        refine ⟨.ref _, _, I5.laid (t' := s4.toks) (o := .tup xs.reverse) (fun b ob q => Heap.get?_push_of_some _ q) (Nat.le_refl _) ?_, rfl, q _ (I5.hok.fresh (Nat.le_refl _))⟩
        exact ⟨by rw [List.length_reverse]; exact hz, _, r.reverse, IsTup.new _ _⟩
    exact both.run pins s σ H Q I hq
  · have rx := ha _ _ _ _ r1
    cases x with
    | d x =>
      refine SR.lift fun z e Q hQ => ?_
      unfold revD at e
      split at e
      · cases e
        obtain ⟨a, vs, rfl, hH, rl⟩ := PkD.tuple s1 rx
        exact .inr (.inl ⟨a, vs, rfl, gx.hK ▸ hH, ok_tup s1 rl.reverse hQ⟩)
      · cases e
        obtain ⟨a, vs, rfl, hH, rl⟩ := PkD.list s1 rx
        exact .inl ⟨a, vs, rfl, .of hH, ok_lst s1 rl.reverse hQ⟩
      · split at e
        · rename_i hz
          cases e
          cases PkD.str rx
          exact .inr (.inr ⟨_, rfl, szL ▸ hz, ok_str s1 hQ⟩)
        · cases e
      · cases e
    | _ => exact trivial

/-! ### methods of texts -/
def meId : ME → String
  | .join => "str.join"
  | .split => "str.split"
  | .words => "str.split"
  | .partition => "str.partition"
  | .count => "str.count"
  | .replace => "str.replace"
  | .index => "str.index"
  | .get => "str.get"
def wM (X : Cx) (id : String) (σ : Sg) (x : V) (xs : List V) (H : Hp) (Q : VK) : Prop :=
  ∀ (pins : List (Addr × Obj)) (s : Shared) (v : Value) (us : List Value), Inv X pins σ H s → RelV x v → Vals xs us → wpAny (model X.prog X.w) X.A (call (.builtin id) (v :: us)) (EP X pins σ Q) X.xe s
theorem mtR_w {X : Cx} {id : String} : MtR X id (fun x xs H Q => ∀ σ, wM X id σ x xs H Q) := fun pins s σ H x xs v us Q I rx rv h => h σ pins s v us I rx rv
theorem wM_of {X : Cx} {id : String} {σ : Sg} {x : V} {xs : List V} {H : Hp} {Q : VK} {r : V → List V → Hp → VK → Prop} (p : MtR X id r) (h : r x xs H Q) : wM X id σ x xs H Q := fun pins s v us I rx rv => p pins s σ H x xs v us Q I rx rv h
theorem noSup_base {o : Expr} {nm : Str} {env : Env} (h : noSup o = true) : attributeBase o nm env (eval o env) = eval o env := by
  cases o <;> first | rfl | skip
  rename_i f _ _ _
  cases f <;> first | rfl | cases h
theorem RpL.strs {K : PySem.W.Frag} {Z : Hp} : ∀ {xs : List PyData} {vs : List V} {ys : List Str}, RpL K Z xs vs → strsOf xs = some ys → vs = ys.map V.str
  | [], vs, ys, r, e => by
    cases e
    simp only [RpL] at r
    subst r
    rfl
  | x :: xs, vs, ys, r, e => by
    simp only [RpL] at r
    obtain ⟨v, t, rfl, r1, r2⟩ := r
    cases x <;> simp only [strsOf] at e <;> first | (cases e; done) | skip
    obtain ⟨zs, e1, rfl⟩ := Option.map_eq_some_iff.mp e
    simp only [Rp] at r1
    subst r1
    rw [RpL.strs r2 e1]
    rfl
theorem RpL.of_strs {K : PySem.W.Frag} {Z : Hp} : ∀ ys : List Str, RpL K Z (ys.map .str) (ys.map V.str)
  | [] => RpL.nil
  | y :: ys => RpL.cons (by simp only [Rp]) (RpL.of_strs ys)
theorem mt_index {X : Cx} : MtR X "str.index" (fun x xs H Q => ∃ a b i rest, x = .str a ∧ xs = [.str b] ∧ PySem.Builtin.Str.occurrences a b 0 a.length 1 = i :: rest ∧ Q (.int (i : Int)) H) := by
  intro pins s σ H x xs v us Q I rx rs h
  obtain ⟨a, b, i, rest, rfl, rfl, ho, h⟩ := h
  obtain ⟨t, rfl⟩ := rx
  cases rs with
  | cons r1 rs =>
    cases rs
    obtain ⟨u, rfl⟩ := r1
    exact call_gives PySem.F.slot_str_index (typeIs_str _ _ _) PySem.F.entry_str_index (PySem.F.args_str_index_2 _ _) (gives_str_index a b t u i rest ho) ⟨.int i, H, I.tok (s.toks + 1), ⟨_, rfl⟩, h⟩
theorem me_ok {m : ME} {a : Str} {ds : List PyData} {vs : List V} {z : PyData} (hK : X.K = pg.K) (s : Sim pg.K g h H) (r : RpL pg.K g.Z ds vs) (e : meD m (.str a) ds = some z) {Q : VK}
    (hQ : ∀ v H' g', Sim pg.K g' h H' → Pres g H g' H' → VlRel pg.K g' H' (.d z) v → Q v H') : wM X (meId m) σ (.str a) vs H Q := by
  unfold meD at e
  split at e
  · rename_i a' xs ea
    cases ea
    simp only [RpL, Rp] at r
    obtain ⟨v, t, rfl, ⟨p, ws, rfl, hz, rl⟩, rfl⟩ := r
    obtain ⟨ys, e1, e2⟩ := Option.bind_eq_some_iff.mp e
    split at e2
    · rename_i c
      cases e2
      rw [rl.strs e1] at hz
      exact wM_of mt_join ⟨_, p, ys, rfl, rfl, .inl (.of (s.sub _ _ hz)), by have := c; unfold SZ at this; omega, ok_str s hQ⟩
    · cases e2
  · rename_i a' b ea
    cases ea
    simp only [RpL, Rp] at r
    obtain ⟨v, t, rfl, rfl, rfl⟩ := r
    split at e
    · rename_i c
      cases e
      exact wM_of mt_split ⟨_, b, rfl, rfl, c.1, szL ▸ c.2, ok_lst s (RpL.of_strs _) hQ⟩
    · cases e
  · rename_i a' ea
    cases ea
    simp only [RpL] at r
    subst r
    split at e
    · rename_i c
      cases e
      exact wM_of mt_words ⟨_, rfl, rfl, szL ▸ c, ok_lst s (RpL.of_strs _) hQ⟩
    · cases e
  · rename_i a' b ea
    cases ea
    simp only [RpL, Rp] at r
    obtain ⟨v, t, rfl, rfl, rfl⟩ := r
    split at e
    · rename_i c
      cases e
      exact wM_of mt_partition ⟨_, b, rfl, rfl, c.1, szL ▸ c.2, ok_tup s (RpL.of_strs [_, _, _]) hQ⟩
    · cases e
  · rename_i a' b ea
    cases ea
    simp only [RpL, Rp] at r
    obtain ⟨v, t, rfl, rfl, rfl⟩ := r
    cases e
    exact wM_of mt_count ⟨_, b, rfl, rfl, ok_int s hQ⟩
  · rename_i a' b ea
    cases ea
    simp only [RpL, Rp] at r
    obtain ⟨v, t, rfl, rfl, rfl⟩ := r
    obtain ⟨i, e1, rfl⟩ := Option.map_eq_some_iff.mp e
    obtain ⟨rest, e2⟩ := List.head?_eq_some_iff.mp e1
    exact wM_of mt_index ⟨_, b, i, rest, rfl, rfl, e2, ok_int s hQ⟩
  · cases e
theorem SE.me0 {m : ME} {o : Te} {eo : Expr} {nm : Str} {ap pos : Pos} {Ro : Gh → Hp → Vl → V → Prop} (gx : GX X c pg tb G C n) (ho : ∀ g H x v, Ro g H x v → PkR pg.K g H x v) (hn : nm = meN m) (hs : noSup eo = true) (hl : (ap.endLine == pos.line) = true) (hm : meA m 0 = true)
    (q1 : SR pg X σ g H Ro (evE C G o env h) (wE X eo σ H)) :
    SR pg X σ g H (VlRel pg.K) (evE C G (.me m o []) env h) (wE X (.Call (.Attribute eo nm ap) [] [] pos) σ H) := by
  have hw : m = .words := by cases m <;> first | rfl | cases hm
  subst hw
  have hn : nm = ("split" : Str) := hn
  subst hn
  rw [evE]
  refine SR.bind (w2 := fun (x : V) (H1 : Hp) (Q : VK) => (∃ a : Str, x = V.str a) ∧ ∀ σ, wM X "str.split" σ x [] H1 Q) q1 (fun Q hq => wE_of (pe_m0 F.slot_str_split F.type_str_split mtR_w pe_w (noSup_base hs) hl) hq) fun x h1 v H1 g1 _ s1 p1 r1 => ?_
  have rx := ho _ _ _ _ r1
  cases x with
  | d x =>
    cases x with
    | str a =>
      cases PkD.str rx
      rw [evEs]
      exact SR.lift fun z e2 Q hQ => ⟨⟨a, rfl⟩, fun σ => me_ok (m := .words) (vs := []) gx.hK s1 RpL.nil e2 hQ⟩
    | _ => exact trivial
  | _ => exact trivial
theorem SE.me1 {m : ME} {o : Te} {es : List Te} {eo e0 : Expr} {nm : Str} {ap pos : Pos} {Ro : Gh → Hp → Vl → V → Prop} (gx : GX X c pg tb G C n) (ho : ∀ g H x v, Ro g H x v → PkR pg.K g H x v) (hn : nm = meN m) (hs : noSup eo = true) (hl : (ap.endLine == pos.line) = true) (hm : meA m 1 = true) (ns : noStar e0 = true)
    (q1 : SR pg X σ g H Ro (evE C G o env h) (wE X eo σ H))
    (q2 : ∀ h1 g1 H1, Sim pg.K g1 h1 H1 → Pres g H g1 H1 → SR pg X σ g1 H1 (fun g H xs v => ∃ x, xs = [x] ∧ VlR pg.K g x v) (evEs C G es env h1) (wE X e0 σ H1)) :
    SR pg X σ g H (VlRel pg.K) (evE C G (.me m o es) env h) (wE X (.Call (.Attribute eo nm ap) [e0] [] pos) σ H) := by
  have go : ∀ Q : VK, wE X eo σ H (fun x H1 => (∃ a, x = .str a) ∧ wE X e0 σ H1 fun y H2 => ∀ σ, wM X (meId m) σ x [y] H2 Q) → wE X (.Call (.Attribute eo nm ap) [e0] [] pos) σ H Q := fun Q hq => by
    subst hn
    have st := star_cons (es := []) (env := X.env) ns
    cases m <;> first | (cases hm; done) | skip
    · exact wE_of (pe_m1 F.slot_str_join F.type_str_join mtR_w pe_w pe_w st (noSup_base hs) hl) hq
    · exact wE_of (pe_m1 F.slot_str_split F.type_str_split mtR_w pe_w pe_w st (noSup_base hs) hl) hq
    · exact wE_of (pe_m1 F.slot_str_partition F.type_str_partition mtR_w pe_w pe_w st (noSup_base hs) hl) hq
    · exact wE_of (pe_m1 F.slot_str_count F.type_str_count mtR_w pe_w pe_w st (noSup_base hs) hl) hq
    · exact wE_of (pe_m1 F.slot_str_index F.type_str_index mtR_w pe_w pe_w st (noSup_base hs) hl) hq
  rw [evE]
  refine SR.bind (w2 := fun (x : V) (H1 : Hp) (Q : VK) => (∃ a : Str, x = V.str a) ∧ wE X e0 σ H1 fun y H2 => ∀ σ, wM X (meId m) σ x [y] H2 Q) q1 go fun x h1 v H1 g1 _ s1 p1 r1 => ?_
  have rx := ho _ _ _ _ r1
  cases x with
  | d x =>
    cases x with
    | str a =>
      cases PkD.str rx
      refine SR.imp (w := fun Q => wE X e0 σ H1 fun y H2 => ∀ σ, wM X (meId m) σ (.str a) [y] H2 Q) ?_ fun Q hq => ⟨⟨a, rfl⟩, hq⟩
      refine SR.bind (w2 := fun y H2 (Q : VK) => ∀ σ, wM X (meId m) σ (.str a) [y] H2 Q) (q2 h1 g1 H1 s1 p1) (fun Q hq => hq) fun xs h2 u H2 g2 _ s2 p2 r2 => ?_
      obtain ⟨y, rfl, ry⟩ := r2
      cases y with
      | d y =>
        show SR pg X σ g2 H2 (VlRel pg.K) (lift (meD m (.str a) [y]) h2) _
        exact SR.lift fun z e2 Q hQ σ => me_ok gx.hK s2 (RpL.cons ry RpL.nil) e2 hQ
      | _ => exact trivial
    | _ => exact trivial
  | _ => exact trivial

/-! ### isinstance -/
def dTy : PyData → String
  | .none => "NoneType"
  | .bool _ => "bool"
  | .int _ => "int"
  | .str _ => "str"
  | .list _ => "list"
  | .tuple _ => "tuple"
  | .dict _ => "dict"
def tyS : Ty → String
  | .int => "int"
  | .str => "str"
  | .bool => "bool"
  | .tuple => "tuple"
  | .list => "list"
  | .dict => "dict"
theorem sqT_ty {K : PySem.W.Frag} {a : Addr} {vs : List V} (q : SqT K H a vs) : TyX K H (.ref a) (.type "tuple") := by
  rcases q with (q | ⟨o, q⟩) | q
  · exact .base (.tup q)
  · exact .fTuple q
  · obtain ⟨o, its, nn, q1, q2, _⟩ := q
    exact .kTuple q1 q2
theorem ty_D {x : PyData} {v : V} (hx : ∀ kvs, x = .dict kvs → kvs = []) (hK : X.K = pg.K) (s : Sim pg.K g h H) (r : PkD pg.K g H x v) : TyX X.K H v (.type (dTy x)) := by
  rw [hK]
  cases x with
  | none => rw [r.none]; exact .base .non
  | bool b => rw [r.bool]; exact .base (.bl b)
  | int i => rw [r.int]; exact .base (.int i)
  | str y => rw [r.str]; exact .base (.str y)
  | list xs =>
    obtain ⟨a, vs, rfl, hH, _⟩ := PkD.list s r
    exact .base (.lst hH)
  | tuple xs =>
    obtain ⟨a, vs, rfl, hH, _⟩ := PkD.tuple s r
    exact sqT_ty hH
  | dict kvs =>
    rcases r with r | ⟨ys, a, vs, e, _⟩
    · simp only [VlR, Rp] at r
      rcases r with ⟨a, l, rfl, z, _⟩ | r
      · exact .base (.dK (s.sub _ _ z))
      · exact (r.isRef.2 (hx _ rfl)).elim
    · cases e
def kd : PyData → Nat
  | .none => 0
  | .bool _ => 1
  | .int _ => 2
  | .str _ => 3
  | .list _ => 4
  | .tuple _ => 5
  | .dict _ => 6
def kdS : Nat → String
  | 0 => "NoneType"
  | 1 => "bool"
  | 2 => "int"
  | 3 => "str"
  | 4 => "list"
  | 5 => "tuple"
  | _ => "dict"
def kdT : Ty → Nat → Bool
  | .int, 2 => true
  | .int, 1 => true
  | .str, 3 => true
  | .bool, 1 => true
  | .tuple, 5 => true
  | .list, 4 => true
  | .dict, 6 => true
  | _, _ => false
theorem kd_all : ∀ (t : Ty) (k : Fin 7), kitB (kdS k.val) (tyS t) = some (kdT t k.val) := by
  intro t
  cases t <;> decide +kernel
theorem kit_D {K : PySem.W.Frag} (x : PyData) (t : Ty) : PySem.W.kitOne K (.type (dTy x)) (.type (tyS t)) = some (isT t x) := by
  have e1 : dTy x = kdS (kd x) := by cases x <;> rfl
  have e2 : isT t x = kdT t (kd x) := by cases x <;> cases t <;> rfl
  have e3 : kd x < 7 := by cases x <;> simp [kd]
  rw [e1, e2]
  exact kit_ty (kd_all t ⟨kd x, e3⟩)
theorem SE.isi {e : Te} {t : Ty} {e' : Expr} {x : Str} {p pt pos : Pos} {Ra : Gh → Hp → Vl → V → Prop} (gx : GX X c pg tb G C n) (ha : ∀ g H x v, Ra g H x v → PkR pg.K g H x v) (hg : glB c x = true) (hx : x = ("isinstance" : Str)) (hgt : glB c (tyN t) = true) (ns : noStar e' = true)
    (q1 : SR pg X σ g H Ra (evE C G e env h) (wE X e' σ H)) :
    SR pg X σ g H (VlRel pg.K) (evE C G (.isi e [t]) env h) (wE X (.Call (.Name x p) [e', .Name (tyN t) pt] [] pos) σ H) := by
  subst hx
  obtain ⟨o1, o2⟩ := glB_of hg
  obtain ⟨o3, o4⟩ := glB_of hgt
  rw [evE]
  have hmt : X.mg (tyN t) = none := by
    rw [gx.hm]
    exact gx.bt _ (by cases t <;> decide +kernel)
  have pT : PE X (.Name (tyN t) pt) (tC (.ty (tyS t))) := pe_bltn (gx.gl' o3) hmt (u := .type (tyS t)) (by cases t <;> decide +kernel) rfl (by cases t <;> decide) o4
  have args : PA X [e', .Name (tyN t) pt] (tCons (wE X e') (tCons (tC (.ty (tyS t))) tNil)) := pa_cons pe_w (pa_cons pT pa_nil (star_cons rfl)) (star_cons ns)
  have rule := pe_callB (X := X) (p := p) (pos := pos) call_isi (gx.gl' o1) (bt_nm gx (by decide +kernel)) (by decide +kernel) args (by decide) o2 (star_cons ns) (by rfl)
  refine SR.bind (w2 := fun v H1 (Q : VK) => rIsi X.K [v, .ty (tyS t)] H1 Q) q1 (fun Q hq => wE_of rule hq) fun y h1 v H1 g1 _ s1 p1 r1 => ?_
  cases y with
  | d y =>
    have main : (∀ kvs, y = .dict kvs → kvs = []) → SR pg X σ g1 H1 (VlRel pg.K) (.ok (.d (.bool ([t].any fun t => isT t y))) h1) (fun (Q : VK) => rIsi X.K [v, .ty (tyS t)] H1 Q) := fun hx => by
      refine fun Q hQ => ⟨v, .ty (tyS t), .type (dTy y), .type (tyS t), isT t y, rfl, .ty _, ty_D hx gx.hK s1 (ha _ _ _ _ r1), kit_D y t, ?_⟩
      have e1 : ([t].any fun t => isT t y) = isT t y := by simp
      have := ok_bl (i := isT t y) s1 (Q := Q)
      refine this fun v H' g' s' p' r' => hQ v H' g' s' p' ?_
      rw [e1]
      exact r'
    cases y with
    | dict kvs =>
      cases kvs with
      | nil => exact main fun _ e => by cases e; rfl
      | cons _ _ => exact trivial
    | _ => exact main fun _ e => nomatch e
  | _ => exact trivial

/-! ### and, or -/
abbrev QB : Gh → Hp → Bool → Bool → Prop := fun _ _ a b => a = b
theorem evAnd_cons2 {e e2 : Te} {r : List Te} : evAnd C G (e :: e2 :: r) env h = (evE C G e env h).bind fun x h1 => match truV x with
    | some true => evAnd C G (e2 :: r) env h1
    | some false => .ok x h1
    | none => .no := by
  rw [evAnd]
  all_goals first | rfl | exact fun z => nomatch z
theorem evOr_cons2 {e e2 : Te} {r : List Te} : evOr C G (e :: e2 :: r) env h = (evE C G e env h).bind fun x h1 => match truV x with
    | some true => .ok x h1
    | some false => evOr C G (e2 :: r) env h1
    | none => .no := by
  rw [evOr]
  all_goals first | rfl | exact fun z => nomatch z
theorem SAnd.one {e : Te} {ee : Expr} {pos : Pos} (q1 : SR pg X σ g H (VlRel pg.K) (evE C G e env h) (wE X ee σ H)) (q2 : SR pg X σ g H QB (tru (evE C G e env h)) (wT X ee σ H)) :
    SR pg X σ g H (VlRel pg.K) (evAnd C G [e] env h) (wE X (.BoolOp .And [ee] pos) σ H) ∧ SR pg X σ g H QB (tru (evAnd C G [e] env h)) (wT X (.BoolOp .And [ee] pos) σ H) := by
  rw [evAnd]
  exact ⟨q1.imp fun Q hq => wE_of (pe_one pe_w) hq, q2.imp fun Q hq pins s I => (pw_and1 pt_w).run _ pins s σ H Q I hq⟩
theorem SOr.one {e : Te} {ee : Expr} {pos : Pos} (q1 : SR pg X σ g H (VlRel pg.K) (evE C G e env h) (wE X ee σ H)) (q2 : SR pg X σ g H QB (tru (evE C G e env h)) (wT X ee σ H)) :
    SR pg X σ g H (VlRel pg.K) (evOr C G [e] env h) (wE X (.BoolOp .Or [ee] pos) σ H) ∧ SR pg X σ g H QB (tru (evOr C G [e] env h)) (wT X (.BoolOp .Or [ee] pos) σ H) := by
  rw [evOr]
  exact ⟨q1.imp fun Q hq => wE_of (pe_one pe_w) hq, q2.imp fun Q hq pins s I => (pw_or1 pt_w).run _ pins s σ H Q I hq⟩
theorem tru_ok_of {x : Vl} {b : Bool} (e : truV x = some b) : tru (.ok x h) = .ok b h := by
  unfold tru
  show (match truV x with | some b => R.ok b h | none => .no) = _
  rw [e]
theorem SAnd.cons {e e2 : Te} {r : List Te} {ee ee2 : Expr} {er : List Expr} {pos : Pos} (gx : GX X c pg tb G C n) (q1 : SR pg X σ g H (VlRel pg.K) (evE C G e env h) (wE X ee σ H)) (q2 : SR pg X σ g H QB (tru (evE C G e env h)) (wT X ee σ H))
    (q3 : ∀ h1 g1 H1, Sim pg.K g1 h1 H1 → Pres g H g1 H1 → SR pg X σ g1 H1 (VlRel pg.K) (evAnd C G (e2 :: r) env h1) (wE X (.BoolOp .And (ee2 :: er) pos) σ H1) ∧ SR pg X σ g1 H1 QB (tru (evAnd C G (e2 :: r) env h1)) (wT X (.BoolOp .And (ee2 :: er) pos) σ H1)) :
    SR pg X σ g H (VlRel pg.K) (evAnd C G (e :: e2 :: r) env h) (wE X (.BoolOp .And (ee :: ee2 :: er) pos) σ H) ∧ SR pg X σ g H QB (tru (evAnd C G (e :: e2 :: r) env h)) (wT X (.BoolOp .And (ee :: ee2 :: er) pos) σ H) := by
  rw [evAnd_cons2]
  constructor
  · refine SR.bind (w2 := fun x H1 Q => ∃ k, TruV X.K x H1 k ∧ if k = true then wE X (.BoolOp .And (ee2 :: er) pos) σ H1 Q else Q x H1) q1 (fun Q hq => wE_of (pe_andT pe_w pe_w) hq) fun x h1 v H1 g1 _ s1 p1 r1 => ?_
    cases t : truV x with
    | none => exact trivial
    | some k =>
      have tv := tru_V gx.hK s1 (.inl r1) t
      cases k with
      | true => exact (q3 h1 g1 H1 s1 p1).1.imp fun Q hq => ⟨true, tv, hq⟩
      | false => exact fun Q hQ => ⟨false, tv, hQ v H1 g1 s1 Pres.refl r1⟩
  · have e1 : tru ((evE C G e env h).bind fun x h1 => match truV x with
        | some true => evAnd C G (e2 :: r) env h1
        | some false => .ok x h1
        | none => .no) = (tru (evE C G e env h)).bind fun k h1 => if k = true then tru (evAnd C G (e2 :: r) env h1) else .ok false h1 := by
      rw [tru_bind]
      unfold tru
      cases evE C G e env h with
      | no => rfl
      | ex _ _ => rfl
      | ok x h1 =>
        show tru _ = R.bind (match truV x with | some b => R.ok b h1 | none => .no) _
        cases t : truV x with
        | none => rfl
        | some k => cases k with
          | true => rfl
          | false => exact tru_ok_of t
    rw [e1]
    refine SR.bind (w2 := fun k H1 Q => if k = true then wT X (.BoolOp .And (ee2 :: er) pos) σ H1 Q else Q false H1) q2 (fun Q hq pins s I => ?_) fun k h1 v H1 g1 _ s1 p1 r1 => ?_
    · refine isTrue_and (thn (hq pins s I) fun k s1 ⟨H1, I1, q⟩ => ?_)
      cases k with
      | true => exact q pins s1 I1
      | false => exact ⟨H1, I1, q⟩
    · subst r1
      cases k with
      | true => exact (q3 h1 g1 H1 s1 p1).2
      | false => exact fun Q hQ => hQ false H1 g1 s1 Pres.refl rfl
theorem SOr.cons {e e2 : Te} {r : List Te} {ee ee2 : Expr} {er : List Expr} {pos : Pos} (gx : GX X c pg tb G C n) (q1 : SR pg X σ g H (VlRel pg.K) (evE C G e env h) (wE X ee σ H)) (q2 : SR pg X σ g H QB (tru (evE C G e env h)) (wT X ee σ H))
    (q3 : ∀ h1 g1 H1, Sim pg.K g1 h1 H1 → Pres g H g1 H1 → SR pg X σ g1 H1 (VlRel pg.K) (evOr C G (e2 :: r) env h1) (wE X (.BoolOp .Or (ee2 :: er) pos) σ H1) ∧ SR pg X σ g1 H1 QB (tru (evOr C G (e2 :: r) env h1)) (wT X (.BoolOp .Or (ee2 :: er) pos) σ H1)) :
    SR pg X σ g H (VlRel pg.K) (evOr C G (e :: e2 :: r) env h) (wE X (.BoolOp .Or (ee :: ee2 :: er) pos) σ H) ∧ SR pg X σ g H QB (tru (evOr C G (e :: e2 :: r) env h)) (wT X (.BoolOp .Or (ee :: ee2 :: er) pos) σ H) := by
  rw [evOr_cons2]
  constructor
  · refine SR.bind (w2 := fun x H1 Q => ∃ k, TruV X.K x H1 k ∧ if k = true then Q x H1 else wE X (.BoolOp .Or (ee2 :: er) pos) σ H1 Q) q1 (fun Q hq => wE_of (pe_orT pe_w pe_w) hq) fun x h1 v H1 g1 _ s1 p1 r1 => ?_
    cases t : truV x with
    | none => exact trivial
    | some k =>
      have tv := tru_V gx.hK s1 (.inl r1) t
      cases k with
      | false => exact (q3 h1 g1 H1 s1 p1).1.imp fun Q hq => ⟨false, tv, hq⟩
      | true => exact fun Q hQ => ⟨true, tv, hQ v H1 g1 s1 Pres.refl r1⟩
  · have e1 : tru ((evE C G e env h).bind fun x h1 => match truV x with
        | some true => .ok x h1
        | some false => evOr C G (e2 :: r) env h1
        | none => .no) = (tru (evE C G e env h)).bind fun k h1 => if k = true then .ok true h1 else tru (evOr C G (e2 :: r) env h1) := by
      rw [tru_bind]
      unfold tru
      cases evE C G e env h with
      | no => rfl
      | ex _ _ => rfl
      | ok x h1 =>
        show tru _ = R.bind (match truV x with | some b => R.ok b h1 | none => .no) _
        cases t : truV x with
        | none => rfl
        | some k => cases k with
          | false => rfl
          | true => exact tru_ok_of t
    rw [e1]
    refine SR.bind (w2 := fun k H1 Q => if k = true then Q true H1 else wT X (.BoolOp .Or (ee2 :: er) pos) σ H1 Q) q2 (fun Q hq pins s I => ?_) fun k h1 v H1 g1 _ s1 p1 r1 => ?_
    · refine isTrue_or (thn (hq pins s I) fun k s1 ⟨H1, I1, q⟩ => ?_)
      cases k with
      | false => exact q pins s1 I1
      | true => exact ⟨H1, I1, q⟩
    · subst r1
      cases k with
      | false => exact (q3 h1 g1 H1 s1 p1).2
      | true => exact fun Q hQ => hQ true H1 g1 s1 Pres.refl rfl
end
end Mi
/-! Mi: errors as values. -/
namespace Mi
open PySem PySem.Spec PyProof.Rows L2
section
variable {X : Cx} {pins : List (Addr × Obj)} {σ : Sg} {H : Hp} {s s' : Shared} {h' : Heap} {a : Addr} {o : HO}
theorem erx_ok {P : Program} {w : World} {H : Hp} {h : Heap} {C : Addr} {d t0 : Option Addr} {ox : Obj} {vs : Array Value} (e1 : h.get? a = some ox) (e2 : ox.cls = .ref C) (e3 : ox.dict = d) (e4 : ox.data = .fields vs)
    (e5 : ∀ t, t0 = some t → vs[0]? = some (.ref t)) : ObjOk P w H h a (ErX a C d t0) :=
  ⟨⟨ox, vs, e1, e2, e3, e4, e5⟩, ⟨ox, e1⟩, fun _ _ ⟨ox, vs, e1, e2, e3, e4, e5⟩ st => ⟨ox, vs, st _ e1, e2, e3, e4, e5⟩⟩
/-- objects that were not there are told of from now on -/
theorem inv_more {H' : Hp} {t' : Nat} (I : Inv X pins σ H s) (k : ∀ b u, s.heap.get? b = some u → h'.get? b = some u) (sm : ∀ b, H' b = H b ∨ s.heap.get? b = none) (new : ∀ b u, H' b = some u → H b = some u ∨ ObjOk X.prog X.w H' h' b u) : Inv X pins σ H' { s with heap := h', toks := t' } := by
  have old : ∀ {b : Addr} {u : Obj}, s.heap.get? b = some u → H' b = H b := fun {b u} q => (sm b).elim id fun z => by rw [z] at q; cases q
  have told : ∀ {b : Addr} {u : HO}, H b = some u → H' b = some u := fun {b u} q => by
    rcases sm b with z | z
    · exact z.trans q
    · rw [I.hok.gone z] at q
      cases q
  have un : Un X.fs [] H H' s.heap h' := by
    refine ⟨fun b u q _ _ _ => k b u q, fun b u q _ _ _ => ⟨_, k b u q⟩, fun b u q n _ => (old q).trans n, fun b u q _ => ⟨u, k b u q⟩, fun b xs q => told q, fun b u xs q => told q, fun b ps q => ⟨#[], ?_⟩⟩
    rw [told q]
    simp
  exact I.un un fun b u e => (new b u e).elim (fun e => (I.hok b u e).stay (fun c v _ q => k c v q) (fun c q => told q) fun c xs q => told q) id
theorem inv_new {t' : Nat} (I : Inv X pins σ H s) (k : ∀ b u, s.heap.get? b = some u → h'.get? b = some u) (hn : s.heap.get? a = none) (new : ObjOk X.prog X.w (upd H a o) h' a o) : Inv X pins σ (upd H a o) { s with heap := h', toks := t' } := by
  refine inv_more I k (fun b => ?_) fun b u e => ?_
  · by_cases hb : b = a
    · exact .inr (hb ▸ hn)
    · exact .inl (upd_ne hb)
  · by_cases hb : b = a
    · subst hb
      rw [upd_same] at e
      cases e
      exact .inr new
    · rw [upd_ne hb] at e
      exact .inl e
/-- the state's other parts -/
theorem inv_to (I : Inv X pins σ H s) (e : s'.heap = s.heap) (os : s'.os = s.os) (ag : AllBare s'.gens) : Inv X pins σ H s' := by
  obtain ⟨ok, i1, i2, i3, i4, i5, i6, i7, i8, i9, i10⟩ := I
  rw [← e] at i3 i4 i5 i8 i9
  exact ⟨ok, os.trans i1, ag, i3, i4, i5, i6, i7, i8, i9, i10⟩
end
section
variable {X : Cx}
/-- an error that is made, as a value -/
theorem pe_err {e : Expr} {t : Sg → Hp → XK → Prop} (he : PMk X e t) : PE X e (fun σ H Q => t σ H fun cls d H' => ∃ C, cls = .ref C ∧ ∀ a, H' a = none → Q (.ref a) (upd H' a (ErX a C d none))) := by
  refine ⟨fun pins s σ H Q I h => wpAny_mono (he pins s σ H _ I h) (fun u s' hm => ?_) fun _ _ x => x⟩
  obtain ⟨a, oe, vs, sI, H', cls, d, rfl, J, k, hne, ha, hz, hd, _, na, os, ag, _, C, rfl, q⟩ := hm
  have J1 : Inv X pins σ (upd H' a (ErX a C d none)) { sI with heap := s'.heap, toks := s'.toks } := inv_new J k hne (erx_ok ha hz.1 hz.2 hd fun _ z => nomatch z)
  exact ⟨.ref a, _, inv_to J1 rfl os ag, rfl, q a na⟩
/-- C(e), C an own class that takes a message -/
theorem pe_errM {C : Addr} {bmB : List Value} {B newId initId : String} {x : Str} {p pos : Pos} {e : Expr} (F : ExcBaseFacts B newId initId bmB) (q : PySem.W.excIn X.K C bmB newId = true) (gC : X.mg x = some (.ref C))
    (kC : PySem.W.keepIn X.K (.ref C) = true) (hg : Gl X x) (hdb : (x == ("__debug__" : Str)) = false) (he : starEach [e] X.env = (false, eval e X.env) :: starEach [] X.env) :
    PE X (.Call (.Name x p) [e] [] pos) (fun σ H Q => wE X e σ H fun v H1 => ∃ m, v = .str m ∧ ∀ t0 a, H1 t0 = none → H1 a = none → a ≠ t0 → Q (.ref a) (upd (upd H1 t0 (.tup [.str m])) a (ErX a C none (some t0)))) := by
  refine ⟨fun pins s σ H Q I h => ?_⟩
  refine wpAny_Call_Name_kw (ld_glob I hg gC ?_ hdb)
  refine PySem.W.callWith_K (h₀ := X.base) I.ok.mod.kin kC (thn ((pa_cons pe_w pa_nil he).run pos pins s σ H (fun vs H1 => ∃ m, vs = [.str m] ∧ ∀ t0 a, H1 t0 = none → H1 a = none → a ≠ t0 → Q (.ref a) (upd (upd H1 t0 (.tup [.str m])) a (ErX a C none (some t0)))) I
    (wE_mono h fun v H1 ⟨m, ev, q⟩ => ⟨m, by rw [ev], q⟩)) fun us s1 ⟨vs, H1, I1, r1, m, ev, q1⟩ => ⟨I1.kIn, ?_⟩) he rfl
  subst ev
  cases r1 with
  | cons ru rn =>
    cases rn
    obtain ⟨tk, rfl⟩ := ru
    show wpAny _ _ (call (.ref C) [_]) _ _ _
    obtain ⟨bm, N, nm, qn, bs, hdct, sn, sub, ab, col, dd, k0, k1, k2, k3, k5, mN, hC, hN, hni, T⟩ := exc_obj I1.kIn q
    refine wpAny_call_exc_subT F T hC hN hni (fun h2 a hm => ?_) (by show 1 ≤ sizeLine; rw [sizeLine_eq]; omega)
    obtain ⟨t0, e1, e2, e3⟩ := hm.there
    have nt : a ≠ t0 := fun z => by
      rw [z, e3] at e1
      cases e1
    have I3 : Inv X pins σ (upd (upd H1 t0 (.tup [.str m])) a (ErX a C none (some t0))) { s1 with heap := h2, toks := s1.toks } := by
      refine inv_more I1 hm.keeps (fun b => ?_) fun b u e => ?_
      · by_cases hb : b = a
        · exact .inr (hb ▸ hm.new)
        · by_cases hb2 : b = t0
          · exact .inr (hb2 ▸ e2)
          · exact .inl ((upd_ne hb).trans (upd_ne hb2))
      · by_cases hb : b = a
        · subst hb
          rw [upd_same] at e
          cases e
          exact .inr (erx_ok e1 rfl rfl rfl fun t z => by cases z; rfl)
        · rw [upd_ne hb] at e
          by_cases hb2 : b = t0
          · subst hb2
            rw [upd_same] at e
            cases e
            exact .inr ⟨by show 1 ≤ sizeLine; rw [sizeLine_eq]; omega, _, .cons ⟨tk, rfl⟩ .nil, _, e3, rfl, _, rfl⟩
          · rw [upd_ne hb2] at e
            exact .inl e
    exact ⟨.ref a, _, I3, rfl, q1 t0 a (I1.hok.gone e2) (I1.hok.gone hm.new) nt⟩
/-- isinstance of an error -/
theorem call_isX : CallR X (.builtin "isinstance") (fun xs H Q => ∃ (a D : Addr) (d t0 : Option Addr) (c : V) (cv : Value) (b : Bool), xs = [.ref a, c] ∧ H a = some (ErX a D d t0) ∧ (∀ dd, d = some dd → ∃ fs, H dd = some (.xd fs)) ∧ ExcC X.K D ∧ (PySem.W.clsIn X.K D).isSome = true ∧
    (∀ u, RelV c u → u = cv) ∧ PySem.W.kitOne X.K (.ref D) cv = some b ∧ Q (.bl b) H) := by
  intro pins s σ H xs us Q I r h
  obtain ⟨a, D, d, t0, c, cv, b, rfl, h1, h2, C, hcl, hcv, e, q⟩ := h
  cases r with
  | cons rx rr =>
    cases rr with
    | cons rt rr =>
      cases rr
      cases rx
      have ec := hcv _ rt
      subst ec
      obtain ⟨⟨ox, vs, g1, g2, g3, g4, _⟩, _⟩ := I.hok a _ h1
      have no : PySem.W.notCls ox = true := by unfold PySem.W.notCls; rw [g4] <;> rfl
      have J : ∃ od, PySem.W.InstAt s.heap a ox D od := by
        cases d with
        | none => exact ⟨none, g1, g2, no, by rw [g3]; trivial⟩
        | some dd =>
          obtain ⟨fs, e1⟩ := h2 dd rfl
          obtain ⟨mA, hns, _⟩ := I.hok dd _ e1
          obtain ⟨od, ho, _⟩ := lookIn_ns hns
          exact ⟨some od, g1, g2, no, by rw [g3]; exact ho⟩
      obtain ⟨od, J⟩ := J
      exact PySem.W.kia_one (PySem.W.kitx_exc hcl C.hg C.hk C.hs C.ha C.hn C.ht C.hm) I.kIn J e (fun z => nomatch z) fun tk => ⟨.bl b, H, I.kept (t' := tk) fun _ _ z => z, rfl, q⟩
/-- e.f of an error that keeps a value -/
theorem pe_erA {e : Expr} {f : Str} {pos : Pos} (hb : attributeBase e f X.env (eval e X.env) = eval e X.env) :
    PE X (.Attribute e f pos) (fun σ H Q => wE X e σ H fun v H1 => ∃ a C d t0 w, v = .ref a ∧ H1 a = some (ErX a C (some d) t0) ∧ H1 d = some (.xd [(f, w)]) ∧ XfC X.K C ∧ PySem.W.findIn X.K (.ref C) f = some none ∧ Q w H1) := by
  refine ⟨fun pins s σ H Q I h => ?_⟩
  refine attr_of hb (thn (h pins s I) fun u s1 ⟨v, H1, I1, rv, a, C, d, t0, w, ev, h1, h2, T, hno, q⟩ => ?_)
  subst ev
  obtain rfl : u = Value.ref a := rv
  obtain ⟨⟨ox, vs, g1, g2, g3, g4, _⟩, _⟩ := I1.hok a _ h1
  obtain ⟨mA, hns, hr⟩ := I1.hok d _ h2
  obtain ⟨od, ho, hl⟩ := lookIn_ns hns
  have l : ([(f, w)] : List (Str × V)).lookup f = some w := by simp
  obtain ⟨u, hu, ru⟩ := RelO.some_of (v := w) (o := mA f) (by rw [← l]; exact hr f)
  have J : PySem.W.InstAt s1.heap a ox C (some od) := ⟨g1, g2, by unfold PySem.W.notCls; rw [g4] <;> rfl, by rw [g3]; exact ho⟩
  exact HandSPX.exc_get I1.kIn J T.ga T.gg T.exC (PySem.W.findObj_own T.hdC hno rfl (by rw [hl, hu])) (handed_of ru) ⟨w, H1, I1.tok _, ru, q⟩
end
end Mi
/-! Mi: errors as values: the constructs. -/
namespace Mi
open PySem PySem.Spec PyProof.Rows L2
section
variable {pg : Pg} {tb : Tb} {G : Nat → Option PyData} {C : Cf} {n : Nat} {X : Cx} {c : Cd} {g : Gh} {H : Hp} {σ : Sg} {h : Sh} {env : En}
theorem pl_erx {a D : Addr} {d t0 : Option Addr} : True := trivial
theorem SE.mkm {i : Nat} {x : Str} {e : Te} {e' : Expr} {p pos : Pos} (gx : GX X c pg tb G C n) (o1 : glB c x = true) (o3 : tb.cs i = some x) (o4 : tb.er x = true) (ns : noStar e' = true)
    (q1 : SR pg X σ g H (VlRel pg.K) (evE C G e env h) (wE X e' σ H)) : SR pg X σ g H (VlRel pg.K) (evE C G (.mkm i x e) env h) (wE X (.Call (.Name x p) [e'] [] pos) σ H) := by
  obtain ⟨g1, g2⟩ := glB_of o1
  obtain ⟨D, er⟩ := gx.ct.er x o4
  obtain ⟨D', e1, e2, K⟩ := gx.ct.cs i x o3
  rw [er.mg] at e2
  cases e2
  have rule := pe_errM (X := X) (p := p) (pos := pos) (e := e') F.excBase_ValueError (by rw [gx.hK]; exact K.ex) (by rw [gx.hm]; exact er.mg) (by rw [gx.hK]; exact K.kp) (gx.gl' g1) g2 (star_cons ns)
  rw [evE]
  refine SR.bind (w2 := fun v H1 (Q : VK) => ∃ m, v = .str m ∧ ∀ t0 a, H1 t0 = none → H1 a = none → a ≠ t0 → Q (.ref a) (upd (upd H1 t0 (.tup [.str m])) a (ErX a D none (some t0)))) q1 (fun Q hq => wE_of rule hq) fun y h1 v H1 g1 eq1 s1 p1 r1 => ?_
  split
  · rename_i m
    simp only [VlRel, VlR, Rp] at r1
    subst r1
    refine fun Q hQ => ⟨m, rfl, fun t0 a n0 na ne => ?_⟩
    obtain ⟨s2, p2⟩ := s1.frozen n0 (.tup [.str m])
    have na' : upd H1 t0 (.tup [.str m]) a = none := (upd_ne ne).trans na
    obtain ⟨s3, p3⟩ := s2.frozen na' (ErX a D none (some t0))
    refine hQ _ _ _ s3 (p2.trans p3) ?_
    simp only [VlRel, VlR, Rp]
    refine .inr ?_
    simp only [RpX]
    refine ⟨a, D, t0, rfl, er.ns, ?_, ?_, K.sc⟩
    · show upd (upd g1.Z t0 _) a _ a = _
      rw [upd_same]
    · show upd (upd g1.Z t0 _) a _ t0 = _
      rw [upd_ne (Ne.symm ne), upd_same]
  · exact trivial
theorem SE.mkv {i : Nat} {x f : Str} {e : Te} {e' : Expr} {p pos : Pos} (gx : GX X c pg tb G C n) (o1 : glB c x = true) (o3 : tb.vc i = some (x, f)) (o4 : tb.er x = true) (ns : noStar e' = true)
    (q1 : SR pg X σ g H (VlRel pg.K) (evE C G e env h) (wE X e' σ H)) : SR pg X σ g H (VlRel pg.K) (evE C G (.mkv i x f e) env h) (wE X (.Call (.Name x p) [e'] [] pos) σ H) := by
  obtain ⟨g1, g2⟩ := glB_of o1
  obtain ⟨D, er⟩ := gx.ct.er x o4
  obtain ⟨D', e1, e2, e3, K⟩ := gx.ct.vs i x f o3
  rw [er.mg] at e2
  cases e2
  have mk := K.mkr X x p pos e' gx.hP gx.hw gx.hK gx.hm gx.hb (gx.room.mono (by omega)) (passes_call takes0 fun _ _ _ _ z => z) (gx.gl' g1) (by rw [gx.hm]; exact er.mg) g2 (star_cons ns)
  have rule := pe_err mk
  rw [evE]
  refine SR.bind (w2 := fun v H1 (Q : VK) => ∀ d, H1 d = none → ∀ a, upd H1 d (.xd [(f, v)]) a = none → Q (.ref a) (upd (upd H1 d (.xd [(f, v)])) a (ErX a D (some d) none))) q1 (fun Q hq => wE_of rule (wE_mono hq fun v H1 q d nd => ⟨D, rfl, fun a na => q d nd a na⟩)) fun y h1 v H1 g1 eq1 s1 p1 r1 => ?_
  have main : ∀ y, flV y = some v → SR pg X σ g1 H1 (VlRel pg.K) (.ok (.d (.dict [(.none, .list [.str x, .str f, y])])) h1) (fun (Q : VK) => ∀ d, H1 d = none → ∀ a, upd H1 d (.xd [(f, v)]) a = none → Q (.ref a) (upd (upd H1 d (.xd [(f, v)])) a (ErX a D (some d) none))) := fun y hy => by
    refine fun Q hQ d nd a na => ?_
    obtain ⟨s2, p2⟩ := s1.frozen nd (.xd [(f, v)])
    obtain ⟨s3, p3⟩ := s2.frozen na (ErX a D (some d) none)
    have ne : a ≠ d := fun z => by
      rw [z, upd_same] at na
      cases na
    refine hQ _ _ _ s3 (p2.trans p3) ?_
    simp only [VlRel, VlR, Rp]
    refine .inr ?_
    simp only [RpX]
    refine ⟨a, D, d, v, rfl, er.ns, ?_, ?_, hy⟩
    · show upd (upd g1.Z d _) a _ a = _
      rw [upd_same]
    · show upd (upd g1.Z d _) a _ d = _
      rw [upd_ne (Ne.symm ne), upd_same]
  split
  · simp only [VlRel, VlR, Rp] at r1
    subst r1
    exact main _ rfl
  · simp only [VlRel, VlR, Rp] at r1
    subst r1
    exact main _ rfl
  · exact trivial
theorem errOf_X {K : PySem.W.Frag} {Z : Hp} {d : PyData} {x : Str} {v : V} (e : errOf d = some x) (r : Rp K Z d v) : ∃ a C dd t0, v = .ref a ∧ PySem.W.nsIn K mainGlobals x = some (some (.ref C)) ∧ Z a = some (ErX a C dd t0) ∧ ∀ d', dd = some d' → ∃ fs, Z d' = some (.xd fs) := by
  unfold errOf at e
  split at e
  · cases e
    simp only [Rp] at r
    rcases r with ⟨_, _, _, _, r⟩ | r
    · simp only [RpM] at r
      obtain ⟨_, _, _, _, r, _⟩ := r
      cases r
    · simp only [RpX] at r
      obtain ⟨a, C, t0, rfl, h1, h2, h3, _⟩ := r
      exact ⟨a, C, none, some t0, rfl, h1, h2, fun _ z => nomatch z⟩
  · cases e
    simp only [Rp] at r
    rcases r with ⟨_, _, _, _, r⟩ | r
    · simp only [RpM] at r
      obtain ⟨_, _, _, _, r, _⟩ := r
      cases r
    · simp only [RpX] at r
      obtain ⟨a, C, d, w, rfl, h1, h2, h3, _⟩ := r
      exact ⟨a, C, some d, none, rfl, h1, h2, fun _ z => by cases z; exact ⟨_, h3⟩⟩
  · cases e
theorem SE.ixe {e : Te} {y : Str} {yes nay : List Str} {e' : Expr} {p p2 pos : Pos} (gx : GX X c pg tb G C n) (o1 : glB c ("isinstance" : Str) = true) (o2 : glB c y = true) (ns : noStar e' = true)
    (o3 : (yes.all fun x => decide (tb.is x y = some true)) = true) (o4 : (nay.all fun x => decide (tb.is x y = some false)) = true) (o5 : (yes ++ nay).isEmpty = false)
    (q1 : SR pg X σ g H (VlRel pg.K) (evE C G e env h) (wE X e' σ H)) : SR pg X σ g H (VlRel pg.K) (evE C G (.ixe e y yes nay) env h) (wE X (.Call (.Name ("isinstance" : Str) p) [e', .Name y p2] [] pos) σ H) := by
  obtain ⟨g1, g2⟩ := glB_of o1
  obtain ⟨g3, g4⟩ := glB_of o2
  rw [evE]
  have key : ∀ cv, NmC pg y cv → ∀ Q : VK, wE X e' σ H (fun v H1 => ∃ (a D : Addr) (d t0 : Option Addr) (b : Bool), v = .ref a ∧ H1 a = some (ErX a D d t0) ∧ (∀ dd, d = some dd → ∃ fs, H1 dd = some (.xd fs)) ∧ ExcC X.K D ∧ (PySem.W.clsIn X.K D).isSome = true ∧ PySem.W.kitOne X.K (.ref D) cv = some b ∧ Q (.bl b) H1) →
      wE X (.Call (.Name ("isinstance" : Str) p) [e', .Name y p2] [] pos) σ H Q := fun cv nm Q q => by
    rcases nm with ⟨D, m1, rfl⟩ | ⟨T, m1, m2, m3, rfl⟩
    · have pT : PE X (.Name y p2) (tC (.ref D)) := pe_glob (gx.gl' g3) (by rw [gx.hm]; exact m1) rfl g4
      have rule := pe_callB (X := X) (p := p) (pos := pos) call_isX (gx.gl' g1) (bt_nm gx (by decide +kernel)) (by decide +kernel) (pa_cons pe_w (pa_cons pT pa_nil (star_cons rfl)) (star_cons ns)) (by decide) g2 (star_cons ns) (by rfl)
      exact wE_of rule (wE_mono q fun v H1 ⟨a, D', d, t0, b, ev, h1, h2, h3, h4, h5, h6⟩ => ⟨a, D', d, t0, .ref D, _, b, by rw [ev], h1, h2, h3, h4, fun u r => r, h5, h6⟩)
    · have pT : PE X (.Name y p2) (tC (.ty T)) := pe_bltn (gx.gl' g3) (by rw [gx.hm]; exact m1) m2 rfl m3 g4
      have rule := pe_callB (X := X) (p := p) (pos := pos) call_isX (gx.gl' g1) (bt_nm gx (by decide +kernel)) (by decide +kernel) (pa_cons pe_w (pa_cons pT pa_nil (star_cons rfl)) (star_cons ns)) (by decide) g2 (star_cons ns) (by rfl)
      exact wE_of rule (wE_mono q fun v H1 ⟨a, D', d, t0, b, ev, h1, h2, h3, h4, h5, h6⟩ => ⟨a, D', d, t0, .ty T, _, b, by rw [ev], h1, h2, h3, h4, fun u r => r, h5, h6⟩)
  by_cases hn : ∃ cv, NmC pg y cv
  · obtain ⟨cv, nm⟩ := hn
    refine SR.bind (w2 := fun v H1 (Q : VK) => ∃ (a D : Addr) (d t0 : Option Addr) (b : Bool), v = .ref a ∧ H1 a = some (ErX a D d t0) ∧ (∀ dd, d = some dd → ∃ fs, H1 dd = some (.xd fs)) ∧ ExcC X.K D ∧ (PySem.W.clsIn X.K D).isSome = true ∧ PySem.W.kitOne X.K (.ref D) cv = some b ∧ Q (.bl b) H1) q1 (fun Q hq => key cv nm Q hq) fun z h1 v H1 g1 eq1 s1 p1 r1 => ?_
    split
    · rename_i d
      split
      · rename_i x ex
        obtain ⟨a, D, dd, t0, ev, k1, k2, k3⟩ := errOf_X ex (show Rp pg.K g1.Z d v from r1)
        have main : ∀ b, tb.is x y = some b → SR pg X σ g1 H1 (VlRel pg.K) (.ok (.d (.bool b)) h1) (fun (Q : VK) => ∃ (a D : Addr) (d t0 : Option Addr) (b : Bool), v = .ref a ∧ H1 a = some (ErX a D d t0) ∧ (∀ dd, d = some dd → ∃ fs, H1 dd = some (.xd fs)) ∧ ExcC X.K D ∧ (PySem.W.clsIn X.K D).isSome = true ∧ PySem.W.kitOne X.K (.ref D) cv = some b ∧ Q (.bl b) H1) := fun b eb => by
          obtain ⟨D', cv', er, nm', kit⟩ := gx.ct.is x y b eb
          rw [er.ns] at k1
          cases k1
          have : cv' = cv := by
            rcases nm with ⟨E1, m1, rfl⟩ | ⟨T, m1, m2, _, rfl⟩ <;> rcases nm' with ⟨E2, n1, rfl⟩ | ⟨T2, n1, n2, _, rfl⟩
            · rw [m1] at n1; cases n1; rfl
            · rw [m1] at n1; cases n1
            · rw [m1] at n1; cases n1
            · rw [m2] at n2; cases n2; rfl
          subst this
          refine fun Q hQ => ⟨a, _, dd, t0, b, ev, s1.sub _ _ k2, fun d' e => let ⟨fs, z⟩ := k3 d' e; ⟨fs, s1.sub _ _ z⟩, by rw [gx.hK]; exact er.xc, by rw [gx.hK]; exact er.cl, by rw [gx.hK]; exact kit, ok_bl s1 hQ⟩
        split
        · rename_i hc
          exact main true (of_decide_eq_true (List.all_eq_true.mp o3 x (by simpa using hc)))
        · split
          · rename_i hc
            exact main false (of_decide_eq_true (List.all_eq_true.mp o4 x (by simpa using hc)))
          · exact trivial
      · exact trivial
    · exact trivial
  · have none_y : yes = [] := by
      cases yes with
      | nil => rfl
      | cons x r =>
        rw [List.all_cons, Bool.and_eq_true] at o3
        obtain ⟨_, cv, _, nm, _⟩ := gx.ct.is x y true (of_decide_eq_true o3.1)
        exact (hn ⟨cv, nm⟩).elim
    have none_n : nay = [] := by
      cases nay with
      | nil => rfl
      | cons x r =>
        rw [List.all_cons, Bool.and_eq_true] at o4
        obtain ⟨_, cv, _, nm, _⟩ := gx.ct.is x y false (of_decide_eq_true o4.1)
        exact (hn ⟨cv, nm⟩).elim
    subst none_y none_n
    cases o5
theorem noSupA_base {o : Expr} {nm : Str} {env : Env} (h : noSupA o = true) : attributeBase o nm env (eval o env) = eval o env := by
  cases o <;> first | rfl | skip
  rename_i f as _ _
  cases f <;> first | rfl | skip
  cases as <;> first | rfl | cases h
theorem SE.attr {i : Nat} {x f : Str} {e : Te} {e' : Expr} {pos : Pos} (gx : GX X c pg tb G C n) (hs : noSupA e' = true) (o3 : tb.vc i = some (x, f)) (o4 : tb.er x = true)
    (q1 : SR pg X σ g H (VlRel pg.K) (evE C G e env h) (wE X e' σ H)) : SR pg X σ g H (VlRel pg.K) (evE C G (.attr e i x f) env h) (wE X (.Attribute e' f pos) σ H) := by
  obtain ⟨D, er⟩ := gx.ct.er x o4
  obtain ⟨D', e1, e2, e3, K⟩ := gx.ct.vs i x f o3
  rw [er.mg] at e2
  cases e2
  have rule := pe_erA (X := X) (e := e') (f := f) (pos := pos) (noSupA_base hs)
  rw [evE]
  refine SR.bind (w2 := fun v H1 (Q : VK) => ∃ a C d t0 w, v = .ref a ∧ H1 a = some (ErX a C (some d) t0) ∧ H1 d = some (.xd [(f, w)]) ∧ XfC X.K C ∧ PySem.W.findIn X.K (.ref C) f = some none ∧ Q w H1) q1 (fun Q hq => wE_of rule hq) fun z h1 v H1 g1 eq1 s1 p1 r1 => ?_
  split
  · rename_i x' f' y
    split
    · rename_i hc
      obtain ⟨rfl, rfl⟩ := hc
      simp only [VlRel, VlR, Rp] at r1
      rcases r1 with ⟨_, _, _, _, r⟩ | r
      · simp only [RpM] at r
        obtain ⟨_, _, _, _, r, _⟩ := r
        cases r
      · simp only [RpX] at r
        obtain ⟨a, C, d, w, rfl, k1, k2, k3, k4⟩ := r
        rw [er.ns] at k1
        cases k1
        refine fun Q hQ => ⟨a, D, d, none, w, rfl, s1.sub _ _ k2, s1.sub _ _ k3, by rw [gx.hK]; exact K.xf, by rw [gx.hK]; exact K.nf, hQ _ _ g1 s1 Pres.refl ?_⟩
        simp only [VlRel, VlR]
        unfold flV at k4
        split at k4
        · cases k4; simp only [Rp]
        · cases k4; simp only [Rp]
        · cases k4
    · exact trivial
  · exact trivial
end
end Mi
/-! Mi: all expressions: the recursion. -/
namespace Mi
open PySem PySem.Spec PyProof.Rows L2
section
variable {pg : Pg} {tb : Tb} {G : Nat → Option PyData} {C : Cf} {n : Nat}

/-- both readings of an expression -/
structure EOk (pg : Pg) (X : Cx) (G : Nat → Option PyData) (C : Cf) (p : Te) (e : Expr) (g : Gh) (H : Hp) (σ : Sg) (env : En) (h : Sh) : Prop where
  v : SR pg X σ g H (RelP pg.K p) (evE C G p env h) (wE X e σ H)
  t : SR pg X σ g H QB (tru (evE C G p env h)) (wT X e σ H)
abbrev AllE (pg : Pg) (tb : Tb) (G : Nat → Option PyData) (C : Cf) (n : Nat) (p : Te) : Prop :=
  ∀ (e : Expr) (X : Cx) (c : Cd) (g : Gh) (H : Hp) (σ : Sg) (env : En) (h : Sh), GX X c pg tb G C n → okE c tb p e = true → Sim pg.K g h H → EnR pg.K g H env σ → EOk pg X G C p e g H σ env h

variable {X : Cx} {c : Cd} {g : Gh} {H : Hp} {σ : Sg} {env : En} {h : Sh} {p : Te} {e : Expr}
theorem pk_of {p : Te} (g : Gh) (H : Hp) (x : Vl) (v : V) (r : RelP pg.K p g H x v) : PkR pg.K g H x v := r.pk
theorem EOk.byV (gx : GX X c pg tb G C n) (hv : byValue e = true) (q : SR pg X σ g H (RelP pg.K p) (evE C G p env h) (wE X e σ H)) : EOk pg X G C p e g H σ env h := ⟨q, test_of gx hv pk_of q⟩
theorem EOk.two (hp : isPeek p = false) (q : SR pg X σ g H (VlRel pg.K) (evE C G p env h) (wE X e σ H) ∧ SR pg X σ g H QB (tru (evE C G p env h)) (wT X e σ H)) : EOk pg X G C p e g H σ env h := ⟨q.1.toP hp, q.2⟩
theorem EOk.vl (q : EOk pg X G C p e g H σ env h) (hp : isPeek p = false) : SR pg X σ g H (VlRel pg.K) (evE C G p env h) (wE X e σ H) := q.v.weak fun _ _ _ _ r => RelP.vl hp r
theorem npk {p : Te} (h : (!isPeek p) = true) : isPeek p = false := by simpa using h

theorem okL_byV {l : Tl} {e : Expr} (ok : okL c tb l e = true) : byValue e = true := by
  unfold okL at ok
  split at ok <;> first | rfl | cases ok
theorem itB_noSet {oe : List Expr → Bool} {tg : Tg} {k : Mi.It} {e : Expr} (ok : itB c oe tg k e = true) : noSet e = true := by
  unfold itB at ok
  split at ok
  · rfl
  · rfl
  · rfl
  · rfl
  · rw [Bool.and_eq_true] at ok; exact ok.2
  · cases ok
mutual
theorem okE_all : ∀ p : Te, AllE pg tb G C n p
  | .cst v => by
    intro e X c g H σ env h gx ok s en
    unfold okE at ok
    split at ok
    all_goals first | (cases ok; done) | (rename_i hq; cases hq; done) | skip
    rename_i hq
    cases hq
    exact .byV gx rfl ((SE.cst s ok).toP rfl)
  | .var i => by
    intro e X c g H σ env h gx ok s en
    unfold okE at ok
    split at ok
    all_goals first | (cases ok; done) | (rename_i hq; cases hq; done) | skip
    rename_i hq
    cases hq
    exact .byV gx rfl ((SE.var gx s en ok).toP rfl)
  | .peek i => by
    intro e X c g H σ env h gx ok s en
    unfold okE at ok
    split at ok
    all_goals first | (cases ok; done) | (rename_i hq; cases hq; done) | skip
    rename_i hq
    cases hq
    exact .byV gx rfl (SE.peek gx s en ok)
  | .glob i => by
    intro e X c g H σ env h gx ok s en
    unfold okE at ok
    split at ok
    all_goals first | (cases ok; done) | (rename_i hq; cases hq; done) | skip
    rename_i hq
    cases hq
    exact .byV gx rfl ((SE.glob gx s ok).toP rfl)
  | .bin op a b => by
    intro e X c g H σ env h gx ok s en
    unfold okE at ok
    split at ok
    all_goals first | (cases ok; done) | (rename_i hq; cases hq; done) | skip
    rename_i hq
    cases hq
    simp only [Bool.and_eq_true] at ok
    obtain ⟨⟨o1, o2⟩, o3⟩ := ok
    have o1 := of_decide_eq_true o1
    subst o1
    exact .byV gx rfl ((SE.bin gx pk_of pk_of (okE_all a _ X c g H σ env h gx o2 s en).v (fun h1 g1 H1 s1 p1 => (okE_all b _ X c g1 H1 σ env h1 gx o3 s1 (en.mono p1)).v)).toP rfl)
  | .cmp op a b => by
    intro e X c g H σ env h gx ok s en
    unfold okE at ok
    split at ok
    all_goals first | (cases ok; done) | (rename_i hq; cases hq; done) | skip
    rename_i hq
    cases hq
    simp only [Bool.and_eq_true] at ok
    obtain ⟨⟨⟨o1, o2⟩, o3⟩, o4⟩ := ok
    have o1 := of_decide_eq_true o1
    subst o1
    exact .two rfl (SE.cmp gx o4 pk_of pk_of (okE_all a _ X c g H σ env h gx o2 s en).v (fun h1 g1 H1 s1 p1 => (okE_all b _ X c g1 H1 σ env h1 gx o3 s1 (en.mono p1)).v))
  | .chain o1 o2 a b d => by
    intro e X c g H σ env h gx ok s en
    unfold okE at ok
    split at ok
    all_goals first | (cases ok; done) | (rename_i hq; cases hq; done) | skip
    rename_i hq
    cases hq
    simp only [Bool.and_eq_true] at ok
    obtain ⟨⟨⟨⟨⟨q1, q2⟩, q3⟩, q4⟩, q5⟩, q6⟩ := ok
    have q1 := of_decide_eq_true q1
    have q2 := of_decide_eq_true q2
    subst q1 q2
    exact .two rfl (SE.chain gx q6 pk_of pk_of pk_of (okE_all a _ X c g H σ env h gx q3 s en).v (fun h1 g1 H1 s1 p1 => (okE_all b _ X c g1 H1 σ env h1 gx q4 s1 (en.mono p1)).v) (fun h1 g1 H1 s1 p1 => (okE_all d _ X c g1 H1 σ env h1 gx q5 s1 (en.mono p1)).v))
  | .and es => by
    intro e X c g H σ env h gx ok s en
    unfold okE at ok
    split at ok
    all_goals first | (cases ok; done) | (rename_i hq; cases hq; done) | skip
    rename_i hq
    cases hq
    exact .two rfl (by
      rw [evE]
      exact okAnd_all es _ X c g H σ env h _ gx ok s en)
  | .or es => by
    intro e X c g H σ env h gx ok s en
    unfold okE at ok
    split at ok
    all_goals first | (cases ok; done) | (rename_i hq; cases hq; done) | skip
    rename_i hq
    cases hq
    exact .two rfl (by
      rw [evE]
      exact okOr_all es _ X c g H σ env h _ gx ok s en)
  | .not a => by
    intro e X c g H σ env h gx ok s en
    unfold okE at ok
    split at ok
    all_goals first | (cases ok; done) | (rename_i hq; cases hq; done) | skip
    rename_i hq
    cases hq
    exact .two rfl (SE.not gx pk_of (okE_all a _ X c g H σ env h gx ok s en).v (okE_all a _ X c g H σ env h gx ok s en).t)
  | .ite t a b => by
    intro e X c g H σ env h gx ok s en
    unfold okE at ok
    split at ok
    all_goals first | (cases ok; done) | (rename_i hq; cases hq; done) | skip
    rename_i hq
    cases hq
    simp only [Bool.and_eq_true] at ok
    obtain ⟨⟨⟨⟨o1, o2⟩, o3⟩, o4⟩, o5⟩ := ok
    exact .two rfl (SE.ite (okE_all t _ X c g H σ env h gx o1 s en).t (fun h1 g1 H1 s1 p1 => ⟨(okE_all a _ X c g1 H1 σ env h1 gx o2 s1 (en.mono p1)).vl (npk o4), (okE_all a _ X c g1 H1 σ env h1 gx o2 s1 (en.mono p1)).t⟩)
      (fun h1 g1 H1 s1 p1 => ⟨(okE_all b _ X c g1 H1 σ env h1 gx o3 s1 (en.mono p1)).vl (npk o5), (okE_all b _ X c g1 H1 σ env h1 gx o3 s1 (en.mono p1)).t⟩))
  | .neg a => by
    intro e X c g H σ env h gx ok s en
    unfold okE at ok
    split at ok
    all_goals first | (cases ok; done) | (rename_i hq; cases hq; done) | skip
    rename_i hq
    cases hq
    exact .byV gx rfl ((SE.neg pk_of (okE_all a _ X c g H σ env h gx ok s en).v).toP rfl)
  | .tup es => by
    intro e X c g H σ env h gx ok s en
    unfold okE at ok
    split at ok
    all_goals first | (cases ok; done) | (rename_i hq; cases hq; done) | skip
    rename_i hq
    cases hq
    exact .byV gx rfl ((SE.tup (okEs_all es false _ X c g H σ env h gx ok s en)).toP rfl)
  | .dict0 => by
    intro e X c g H σ env h gx ok s en
    unfold okE at ok
    split at ok
    all_goals first | (cases ok; done) | (rename_i hq; cases hq; done) | skip
    rename_i hq
    cases hq
    exact .byV gx rfl ((SE.dict0 s).toP rfl)
  | .ofL l => by
    intro e X c g H σ env h gx ok s en
    unfold okE at ok
    have q := (SE.ofL (okL_all l _ X c g H σ env h gx ok s en)).toP (p := .ofL l) rfl
    exact .byV gx (okL_byV ok) q
  | .newl l => by
    intro e X c g H σ env h gx ok s en
    unfold okE at ok
    have q := (SE.newl (okL_all l _ X c g H σ env h gx ok s en)).toP (p := .newl l) rfl
    exact .byV gx (okL_byV ok) q
  | .ix a i => by
    intro e X c g H σ env h gx ok s en
    unfold okE at ok
    split at ok
    all_goals first | (cases ok; done) | (rename_i hq; cases hq; done) | skip
    rename_i hq
    cases hq
    simp only [Bool.and_eq_true] at ok
    obtain ⟨⟨o1, o2⟩, o3⟩ := ok
    exact .byV gx rfl ((SE.ix gx o3 pk_of pk_of (okE_all a _ X c g H σ env h gx o1 s en).v (fun h1 g1 H1 s1 p1 => (okE_all i _ X c g1 H1 σ env h1 gx o2 s1 (en.mono p1)).v)).toP rfl)
  | .sliceF a i => by
    intro e X c g H σ env h gx ok s en
    unfold okE at ok
    split at ok
    all_goals first | (cases ok; done) | (rename_i hq; cases hq; done) | skip
    rename_i hq
    cases hq
    simp only [Bool.and_eq_true] at ok
    obtain ⟨o1, o2⟩ := ok
    exact .byV gx rfl ((SE.sliceF gx pk_of pk_of (okE_all a _ X c g H σ env h gx o1 s en).v (fun h1 g1 H1 s1 p1 => (okE_all i _ X c g1 H1 σ env h1 gx o2 s1 (en.mono p1)).v)).toP rfl)
  | .sliceT a i => by
    intro e X c g H σ env h gx ok s en
    unfold okE at ok
    split at ok
    all_goals first | (cases ok; done) | (rename_i hq; cases hq; done) | skip
    rename_i hq
    cases hq
    simp only [Bool.and_eq_true] at ok
    obtain ⟨o1, o2⟩ := ok
    exact .byV gx rfl ((SE.sliceT gx pk_of pk_of (okE_all a _ X c g H σ env h gx o1 s en).v (fun h1 g1 H1 s1 p1 => (okE_all i _ X c g1 H1 σ env h1 gx o2 s1 (en.mono p1)).v)).toP rfl)
  | .sliceB a i j => by
    intro e X c g H σ env h gx ok s en
    unfold okE at ok
    split at ok
    all_goals first | (cases ok; done) | (rename_i hq; cases hq; done) | skip
    rename_i hq
    cases hq
    simp only [Bool.and_eq_true] at ok
    obtain ⟨⟨o1, o2⟩, o3⟩ := ok
    exact .byV gx rfl ((SE.sliceB gx pk_of pk_of pk_of (okE_all a _ X c g H σ env h gx o1 s en).v (fun h1 g1 H1 s1 p1 => (okE_all i _ X c g1 H1 σ env h1 gx o2 s1 (en.mono p1)).v) (fun h1 g1 H1 s1 p1 => (okE_all j _ X c g1 H1 σ env h1 gx o3 s1 (en.mono p1)).v)).toP rfl)
  | .rev a => by
    intro e X c g H σ env h gx ok s en
    unfold okE at ok
    split at ok
    all_goals first | (cases ok; done) | (rename_i hq; cases hq; done) | skip
    rename_i hq
    cases hq
    exact .byV gx rfl ((SE.rev gx pk_of (okE_all a _ X c g H σ env h gx ok s en).v).toP rfl)
  | .call f es => by
    intro e X c g H σ env h gx ok s en
    unfold okE at ok
    split at ok
    all_goals first | (cases ok; done) | (rename_i hq; cases hq; done) | skip
    rename_i hq
    cases hq
    simp only [Bool.and_eq_true] at ok
    obtain ⟨⟨o1, o2⟩, o3⟩ := ok
    exact .byV gx rfl ((SE.call gx o1 (of_decide_eq_true o2) (okEs_stars o3) (okEs_all es false _ X c g H σ env h gx o3 s en)).toP rfl)
  | .bi b es => by
    intro e X c g H σ env h gx ok s en
    unfold okE at ok
    split at ok
    all_goals first | (cases ok; done) | (rename_i hq; cases hq; done) | skip
    rename_i hq
    cases hq
    simp only [Bool.and_eq_true] at ok
    obtain ⟨⟨⟨o1, o2⟩, o3⟩, o4⟩ := ok
    rename_i ees _
    cases ees with
    | nil => cases o4
    | cons e0 er => exact .byV gx rfl ((SE.bi gx o1 (of_decide_eq_true o2) (okEs_stars o3) (okEs_all es true _ X c g H σ env h gx o3 s en)).toP rfl)
  | .mkm i x a => by
    intro e X c g H σ env h gx ok s en
    unfold okE at ok
    split at ok
    all_goals first | (cases ok; done) | (rename_i hq; cases hq; done) | skip
    rename_i hq
    cases hq
    simp only [Bool.and_eq_true] at ok
    obtain ⟨⟨⟨⟨⟨⟨o1, o2⟩, o3⟩, o4⟩, o5⟩, o6⟩, o7⟩ := ok
    have o2 := of_decide_eq_true o2
    subst o2
    exact .byV gx rfl ((SE.mkm gx o1 (of_decide_eq_true o3) o4 o7 ((okE_all a _ X c g H σ env h gx o5 s en).vl (npk o6))).toP rfl)
  | .mkv i x f a => by
    intro e X c g H σ env h gx ok s en
    unfold okE at ok
    split at ok
    all_goals first | (cases ok; done) | (rename_i hq; cases hq; done) | skip
    rename_i hq
    cases hq
    simp only [Bool.and_eq_true] at ok
    obtain ⟨⟨⟨⟨⟨⟨o1, o2⟩, o3⟩, o4⟩, o5⟩, o6⟩, o7⟩ := ok
    have o2 := of_decide_eq_true o2
    subst o2
    exact .byV gx rfl ((SE.mkv gx o1 (of_decide_eq_true o3) o4 o7 ((okE_all a _ X c g H σ env h gx o5 s en).vl (npk o6))).toP rfl)
  | .ixe a y yes nay => by
    intro e X c g H σ env h gx ok s en
    unfold okE at ok
    split at ok
    all_goals first | (cases ok; done) | (rename_i hq; cases hq; done) | skip
    rename_i hq
    cases hq
    simp only [Bool.and_eq_true] at ok
    obtain ⟨⟨⟨⟨⟨⟨⟨⟨⟨o1, o2⟩, o3⟩, o4⟩, o5⟩, o6⟩, o7⟩, o8⟩, o9⟩, oz⟩ := ok
    have o1 := of_decide_eq_true o1
    have o3 := of_decide_eq_true o3
    subst o1 o3
    exact .byV gx rfl ((SE.ixe gx o2 o4 o7 o8 o9 (by simpa using oz) ((okE_all a _ X c g H σ env h gx o5 s en).vl (npk o6))).toP rfl)
  | .attr a i x f => by
    intro e X c g H σ env h gx ok s en
    unfold okE at ok
    split at ok
    all_goals first | (cases ok; done) | (rename_i hq; cases hq; done) | skip
    rename_i hq
    cases hq
    simp only [Bool.and_eq_true] at ok
    obtain ⟨⟨⟨⟨⟨o1, o2⟩, o3⟩, o4⟩, o5⟩, o6⟩ := ok
    have o1 := of_decide_eq_true o1
    subst o1
    exact .byV gx rfl ((SE.attr gx o4 (of_decide_eq_true o5) o6 ((okE_all a _ X c g H σ env h gx o2 s en).vl (npk o3))).toP rfl)
  | .isi a ts => by
    intro e X c g H σ env h gx ok s en
    unfold okE at ok
    split at ok
    all_goals first | (cases ok; done) | (rename_i hq; cases hq; done) | skip
    rename_i hq
    cases hq
    simp only [Bool.and_eq_true] at ok
    obtain ⟨⟨⟨⟨o1, o2⟩, o3⟩, o4⟩, o5⟩ := ok
    split at o5
    · rw [Bool.and_eq_true] at o5
      obtain ⟨o6, o7⟩ := o5
      have o6 := of_decide_eq_true o6
      subst o6
      exact .byV gx rfl ((SE.isi gx pk_of o1 (of_decide_eq_true o2) o7 o4 (okE_all a _ X c g H σ env h gx o3 s en).v).toP rfl)
    · cases o5
  | .me m r es => by
    intro e X c g H σ env h gx ok s en
    unfold okE at ok
    split at ok
    all_goals first | (cases ok; done) | (rename_i hq; cases hq; done) | skip
    rename_i hq
    cases hq
    simp only [Bool.and_eq_true] at ok
    obtain ⟨⟨⟨⟨⟨o1, o2⟩, o3⟩, o4⟩, o5⟩, o6⟩ := ok
    rename_i ees _
    rcases ees with _ | ⟨e0, _ | ⟨e1, er⟩⟩
    · cases es with
      | nil => exact .byV gx rfl ((SE.me0 gx pk_of (of_decide_eq_true o3) o4 o5 o6 (okE_all r _ X c g H σ env h gx o1 s en).v).toP rfl)
      | cons _ _ => simp [okEs] at o2
    · have o2' := okEs_stars o2
      rw [noStars, Bool.and_eq_true] at o2'
      exact .byV gx rfl ((SE.me1 gx pk_of (of_decide_eq_true o3) o4 o5 o6 o2'.1 (okE_all r _ X c g H σ env h gx o1 s en).v (fun h1 g1 H1 s1 p1 => okOne_all es _ X c g1 H1 σ env h1 gx o2 s1 (en.mono p1))).toP rfl)
    · cases m <;> cases o6
theorem okEs_all : ∀ (es : List Te) (pk : Bool) (ees : List Expr) (X : Cx) (c : Cd) (g : Gh) (H : Hp) (σ : Sg) (env : En) (h : Sh), GX X c pg tb G C n → okEs c tb pk es ees = true → Sim pg.K g h H → EnR pg.K g H env σ → SR pg X σ g H (ArR pg.K pk) (evEs C G es env h) (wA X ees σ H)
  | [], pk, ees, X, c, g, H, σ, env, h, gx, ok, s, en => by
    cases ees with
    | nil => exact SA.nil s
    | cons _ _ => simp [okEs] at ok
  | p :: es, pk, ees, X, c, g, H, σ, env, h, gx, ok, s, en => by
    cases ees with
    | nil => simp [okEs] at ok
    | cons e ees =>
      simp only [okEs, Bool.and_eq_true] at ok
      obtain ⟨⟨⟨o1, o2⟩, o3⟩, o4⟩ := ok
      exact SA.cons o3 (okE_all p _ X c g H σ env h gx o1 s en).v o2 (fun h1 g1 H1 s1 p1 => okEs_all es pk _ X c g1 H1 σ env h1 gx o4 s1 (en.mono p1))
theorem okOne_all : ∀ (es : List Te) (e : Expr) (X : Cx) (c : Cd) (g : Gh) (H : Hp) (σ : Sg) (env : En) (h : Sh), GX X c pg tb G C n → okEs c tb false es [e] = true → Sim pg.K g h H → EnR pg.K g H env σ →
    SR pg X σ g H (fun g H xs v => ∃ x, xs = [x] ∧ VlR pg.K g x v) (evEs C G es env h) (wE X e σ H)
  | [], e, X, c, g, H, σ, env, h, gx, ok, s, en => by simp [okEs] at ok
  | [p], e, X, c, g, H, σ, env, h, gx, ok, s, en => by
    simp only [okEs, Bool.and_eq_true] at ok
    obtain ⟨⟨⟨o1, o2⟩, o3⟩, o4⟩ := ok
    have o2 : isPeek p = false := by simpa using o2
    have q := (okE_all p _ X c g H σ env h gx o1 s en).vl o2
    rw [evEs]
    refine SR.bind (w2 := fun v H1 Q => Q v H1) q (fun Q hq => hq) fun x h1 v H1 g1 _ s1 p1 r1 => ?_
    rw [evEs]
    exact fun Q hQ => hQ v H1 g1 s1 Pres.refl ⟨x, rfl, r1⟩
  | p :: p2 :: es, e, X, c, g, H, σ, env, h, gx, ok, s, en => by simp [okEs] at ok
theorem okAnd_all : ∀ (es : List Te) (ees : List Expr) (X : Cx) (c : Cd) (g : Gh) (H : Hp) (σ : Sg) (env : En) (h : Sh) (pos : Pos), GX X c pg tb G C n → okEs c tb false es ees = true → Sim pg.K g h H → EnR pg.K g H env σ →
    SR pg X σ g H (VlRel pg.K) (evAnd C G es env h) (wE X (.BoolOp .And ees pos) σ H) ∧ SR pg X σ g H QB (tru (evAnd C G es env h)) (wT X (.BoolOp .And ees pos) σ H)
  | [], ees, X, c, g, H, σ, env, h, pos, gx, ok, s, en => by
    rw [evAnd]
    exact ⟨trivial, trivial⟩
  | [p], ees, X, c, g, H, σ, env, h, pos, gx, ok, s, en => by
    cases ees with
    | nil => simp [okEs] at ok
    | cons e ees =>
      cases ees with
      | cons _ _ => simp [okEs] at ok
      | nil =>
        simp only [okEs, Bool.and_eq_true] at ok
        obtain ⟨⟨⟨o1, o2⟩, o3⟩, o4⟩ := ok
        have o2 : isPeek p = false := by simpa using o2
        have q := okE_all p _ X c g H σ env h gx o1 s en
        exact SAnd.one (q.vl o2) q.t
  | p :: p2 :: es, ees, X, c, g, H, σ, env, h, pos, gx, ok, s, en => by
    cases ees with
    | nil => simp [okEs] at ok
    | cons e ees =>
      cases ees with
      | nil => simp [okEs] at ok
      | cons e2 ees =>
        rw [okEs, Bool.and_eq_true, Bool.and_eq_true, Bool.and_eq_true] at ok
        obtain ⟨⟨⟨o1, o2⟩, o3⟩, o4⟩ := ok
        have o2 : isPeek p = false := by simpa using o2
        have q := okE_all p _ X c g H σ env h gx o1 s en
        exact SAnd.cons gx (q.vl o2) q.t fun h1 g1 H1 s1 p1 => okAnd_all (p2 :: es) _ X c g1 H1 σ env h1 pos gx o4 s1 (en.mono p1)
theorem okOr_all : ∀ (es : List Te) (ees : List Expr) (X : Cx) (c : Cd) (g : Gh) (H : Hp) (σ : Sg) (env : En) (h : Sh) (pos : Pos), GX X c pg tb G C n → okEs c tb false es ees = true → Sim pg.K g h H → EnR pg.K g H env σ →
    SR pg X σ g H (VlRel pg.K) (evOr C G es env h) (wE X (.BoolOp .Or ees pos) σ H) ∧ SR pg X σ g H QB (tru (evOr C G es env h)) (wT X (.BoolOp .Or ees pos) σ H)
  | [], ees, X, c, g, H, σ, env, h, pos, gx, ok, s, en => by
    rw [evOr]
    exact ⟨trivial, trivial⟩
  | [p], ees, X, c, g, H, σ, env, h, pos, gx, ok, s, en => by
    cases ees with
    | nil => simp [okEs] at ok
    | cons e ees =>
      cases ees with
      | cons _ _ => simp [okEs] at ok
      | nil =>
        simp only [okEs, Bool.and_eq_true] at ok
        obtain ⟨⟨⟨o1, o2⟩, o3⟩, o4⟩ := ok
        have o2 : isPeek p = false := by simpa using o2
        have q := okE_all p _ X c g H σ env h gx o1 s en
        exact SOr.one (q.vl o2) q.t
  | p :: p2 :: es, ees, X, c, g, H, σ, env, h, pos, gx, ok, s, en => by
    cases ees with
    | nil => simp [okEs] at ok
    | cons e ees =>
      cases ees with
      | nil => simp [okEs] at ok
      | cons e2 ees =>
        rw [okEs, Bool.and_eq_true, Bool.and_eq_true, Bool.and_eq_true] at ok
        obtain ⟨⟨⟨o1, o2⟩, o3⟩, o4⟩ := ok
        have o2 : isPeek p = false := by simpa using o2
        have q := okE_all p _ X c g H σ env h gx o1 s en
        exact SOr.cons gx (q.vl o2) q.t fun h1 g1 H1 s1 p1 => okOr_all (p2 :: es) _ X c g1 H1 σ env h1 pos gx o4 s1 (en.mono p1)
theorem okCs_all : ∀ (es : List Te) (ees : List Expr) (X : Cx) (c : Cd) (g : Gh) (H : Hp) (σ : Sg) (env : En) (h : Sh), GX X c pg tb G C n → okCs c tb es ees = true → Sim pg.K g h H → EnR pg.K g H env σ → SR pg X σ g H QB (evC C G es env h) (wCs X ees σ H)
  | [], ees, X, c, g, H, σ, env, h, gx, ok, s, en => by
    cases ees with
    | cons _ _ => simp [okCs] at ok
    | nil =>
      rw [evC]
      exact fun Q hQ pins s0 I => wpAny_tests_nil ⟨H, I, hQ true H g s Pres.refl rfl⟩
  | [p], ees, X, c, g, H, σ, env, h, gx, ok, s, en => by
    cases ees with
    | nil => simp [okCs] at ok
    | cons e ees =>
      cases ees with
      | cons _ _ => simp [okCs] at ok
      | nil =>
        simp only [okCs] at ok
        have q := (okE_all p _ X c g H σ env h gx ok s en).t
        have e1 : evC C G [p] env h = tru (evE C G p env h) := by
          rw [evC]
          unfold tru
          cases evE C G p env h with
          | no => rfl
          | ex _ _ => rfl
          | ok x h1 =>
            show (match truV x with | some true => evC C G [] env h1 | some false => .ok false h1 | none => .no) = (match truV x with | some b => R.ok b h1 | none => .no)
            cases truV x with
            | none => rfl
            | some k => cases k with
              | true => rw [evC]
              | false => rfl
        rw [e1]
        exact q.imp fun Q hq pins s0 I => wpAny_tests_one (hq pins s0 I)
  | p :: p2 :: es, ees, X, c, g, H, σ, env, h, gx, ok, s, en => by
    rcases ees with _ | ⟨e1, _ | ⟨e2, er⟩⟩ <;> simp [okCs] at ok
theorem okL_all : ∀ (l : Tl) (e : Expr) (X : Cx) (c : Cd) (g : Gh) (H : Hp) (σ : Sg) (env : En) (h : Sh), GX X c pg tb G C n → okL c tb l e = true → Sim pg.K g h H → EnR pg.K g H env σ → SR pg X σ g H (NwR pg.K H) (evL C G l env h) (wE X e σ H)
  | .disp es, e, X, c, g, H, σ, env, h, gx, ok, s, en => by
    unfold okL at ok
    split at ok
    all_goals first | (cases ok; done) | (rename_i hq; cases hq; done) | skip
    rename_i hq
    cases hq
    exact SL.disp (okEs_all es false _ X c g H σ env h gx ok s en)
  | .cat a b, e, X, c, g, H, σ, env, h, gx, ok, s, en => by
    unfold okL at ok
    split at ok
    all_goals first | (cases ok; done) | (rename_i hq; cases hq; done) | skip
    rename_i hq
    cases hq
    rw [Bool.and_eq_true] at ok
    exact SL.cat gx pk_of pk_of (okE_all a _ X c g H σ env h gx ok.1 s en).v (fun h1 g1 H1 s1 p1 => (okE_all b _ X c g1 H1 σ env h1 gx ok.2 s1 (en.mono p1)).v)
  | .comp elt tg k es cs, e, X, c, g, H, σ, env, h, gx, ok, s, en => by
    unfold okL at ok
    split at ok
    all_goals first | (cases ok; done) | (rename_i hq; cases hq; done) | skip
    rename_i hq
    cases hq
    simp only [Bool.and_eq_true] at ok
    obtain ⟨⟨⟨⟨⟨⟨o1, o2⟩, o3⟩, o4⟩, o5⟩, o6⟩, o7⟩ := ok
    have ns := itB_noSet o4
    exact SL.comp gx o1 o2 (of_decide_eq_true o3) ns s en
      (SI.all gx o4 ⟨_, o2⟩ (fun ees oe => okEs_all es false ees X c g H σ env h gx oe s en) (fun e hp oe => okOne_all es e X c g H σ env h gx oe s en))
      (fun X' gx' env h σ g H s en => okCs_all cs _ X' _ g H σ env h gx' o5 s en)
      (fun X' gx' env h σ g H s en => (okE_all elt _ X' _ g H σ env h gx' o6 s en).vl (npk o7))
end
end
end Mi
/-! Mi: statements: states and ends. -/
namespace Mi
open PySem PySem.Spec PyProof.Rows L2

/-- from the def's entry at g0 H0, and from a later ghost gb -/
structure PZ (g0 : Gh) (H0 : Hp) (gb g : Gh) (H : Hp) : Prop where
  pre : Pres g0 H0 g H
  zm : ∀ a o, gb.Z a = some o → g.Z a = some o
theorem PZ.trans {g0 gb g g' : Gh} {H0 H H' : Hp} (p : PZ g0 H0 gb g H) (q : Pres g H g' H') : PZ g0 H0 gb g' H' := ⟨p.pre.trans q, fun a o e => q.z a o (p.zm a o e)⟩
theorem PZ.apart {g0 gb g : Gh} {H0 H : Hp} (p : PZ g0 H0 gb g H) {a : Addr} (n0 : H0 a = none) (o : HO) : PZ g0 H0 gb g (upd H a o) := ⟨p.pre.apart n0 o, p.zm⟩
theorem PZ.freezeNew {g0 gb g : Gh} {H0 H : Hp} {a : Addr} {vs : List V} (p : PZ g0 H0 gb g H) (z : g.Z a = none) (n0 : H0 a = none) : PZ g0 H0 gb ⟨upd g.Z a (.lst vs), g.ι⟩ H := ⟨p.pre.freezeNew z n0, fun b o e => by
  have q' := p.zm b o e
  show upd g.Z a (.lst vs) b = some o
  rw [upd_ne (fun y => by rw [y, z] at q'; cases q')]
  exact q'⟩
/-- a state within a def that was entered at g0 H0 -/
structure St (pg : Pg) (g0 : Gh) (H0 : Hp) (gb : Gh) (τ : Option Sg) (g : Gh) (H : Hp) (h : Sh) (env : En) (σ : Sg) : Prop where
  sim : Sim pg.K g h H
  pz : PZ g0 H0 gb g H
  en : EnR pg.K g H env σ
  fr : ∀ (i : Nat) xs a, env[i]? = some (.own xs) → σ[i]? = some (some (.ref a)) → H0 a = none
  ts : ∀ s, τ = some s → σ = s
structure PQ (g0 : Gh) (H0 : Hp) (gb : Gh) (τ : Option Sg) (g : Gh) (H : Hp) (σ : Sg) : Prop where
  pz : PZ g0 H0 gb g H
  ts : ∀ s, τ = some s → σ = s
theorem St.pt {pg : Pg} {g0 gb g : Gh} {τ : Option Sg} {H0 H : Hp} {h : Sh} {env : En} {σ : Sg} (st : St pg g0 H0 gb τ g H h env σ) : PQ g0 H0 gb τ g H σ := ⟨st.pz, st.ts⟩
theorem St.pre {pg : Pg} {g0 gb g : Gh} {τ : Option Sg} {H0 H : Hp} {h : Sh} {env : En} {σ : Sg} (st : St pg g0 H0 gb τ g H h env σ) : Pres g0 H0 g H := st.pz.pre
/-- own lists stand in the heap -/
def OwnIn (Hs : Hp) (env : En) (σ : Sg) : Prop := ∀ (i : Nat) xs a, env[i]? = some (.own xs) → σ[i]? = some (some (.ref a)) → Hs a ≠ none
theorem EnR.ownIn {K : PySem.W.Frag} {g : Gh} {H : Hp} {env : En} {σ : Sg} (r : EnR K g H env σ) : OwnIn H env σ := fun i xs a e e2 z => by
  obtain ⟨o, e3, b, vs, rfl, hH, _⟩ := r.at_ i _ e
  rw [e2] at e3
  cases e3
  rw [z] at hH
  cases hH

def SO (pg : Pg) (X : Cx) (g0 : Gh) (H0 : Hp) (gb : Gh) (τ : Option Sg) (r : R Out) (w : Ends → Prop) : Prop :=
  match r with
  | .ok (.nx env') h' => ∀ D : Ends, (∀ σ' H' g', St pg g0 H0 gb τ g' H' h' env' σ' → D.nx σ' H') → w D
  | .ok (.bk env') h' => ∀ D : Ends, (∀ σ' H' g', St pg g0 H0 gb τ g' H' h' env' σ' → D.bk σ' H') → w D
  | .ok (.ct env') h' => ∀ D : Ends, (∀ σ' H' g', St pg g0 H0 gb τ g' H' h' env' σ' → D.ct σ' H') → w D
  | .ok (.rt x) h' => ∀ D : Ends, (∀ v H' g', Sim pg.K g' h' H' → PZ g0 H0 gb g' H' → VlR pg.K g' x v → D.rt v H') → w D
  | .ex e h' => ∀ W : WX, Takes X W → (∀ cls dx σ' H' g', Sim pg.K g' h' H' → PQ g0 H0 gb τ g' H' σ' → ErR pg e cls dx H' g' → W cls dx σ' H') → ∀ D, w D
  | .no => True

section
variable {pg : Pg} {X : Cx} {g g0 gb : Gh} {τ : Option Sg} {H H0 : Hp} {α β : Type} {h : Sh} {env : En} {σ : Sg}
theorem SO.imp {r : R Out} {w w' : Ends → Prop} (q : SO pg X g0 H0 gb τ r w) (c : ∀ D, w D → w' D) : SO pg X g0 H0 gb τ r w' := by
  cases r with
  | no => exact trivial
  | ex e h' => exact fun W tk hW D => c D (q W tk hW D)
  | ok o h' => cases o <;> exact fun D hD => c D (q D hD)
theorem SO.bindE {Rl : Gh → Hp → α → β → Prop} {r : R α} {f : α → Sh → R Out} {w : (β → Hp → Prop) → Prop} {w2 : β → Hp → Ends → Prop} {w3 : Ends → Prop} (q : SR pg X σ g H Rl r w) (p0 : PQ g0 H0 gb τ g H σ)
    (comb : ∀ D, w (fun b H' => w2 b H' D) → w3 D)
    (k : ∀ a h' b H' g', r = .ok a h' → Sim pg.K g' h' H' → Pres g H g' H' → Rl g' H' a b → SO pg X g0 H0 gb τ (f a h') (w2 b H')) : SO pg X g0 H0 gb τ (r.bind f) w3 := by
  cases r with
  | no => exact trivial
  | ex e h' => exact fun W tk hW D => comb D (q W tk (fun cls dx H' g' s p e => hW cls dx σ H' g' s ⟨p0.pz.trans p, p0.ts⟩ e) _)
  | ok a h' =>
    show SO pg X g0 H0 gb τ (f a h') w3
    have k' := k a h'
    cases hf : f a h' with
    | no => exact trivial
    | ex e h2 =>
      refine fun W tk hW D => comb D (q _ fun b H' g' s p r => ?_)
      have := k' b H' g' rfl s p r
      rw [hf] at this
      exact this W tk hW D
    | ok o h2 =>
      cases o <;>
      · refine fun D hD => comb D (q _ fun b H' g' s p r => ?_)
        have := k' b H' g' rfl s p r
        rw [hf] at this
        exact this D hD
theorem SO.nx {env' : En} {h' : Sh} {w : Ends → Prop} (st : St pg g0 H0 gb τ g H h' env' σ) (c : ∀ D : Ends, D.nx σ H → w D) : SO pg X g0 H0 gb τ (.ok (.nx env') h') w := fun D hD => c D (hD σ H g st)
theorem SO.cons {r : R Out} {f : En → Sh → R Out} {st : Stmt} {rest : List Stmt} (q : SO pg X g0 H0 gb τ r fun D => wS X st D σ H)
    (k : ∀ env' h' σ' H' g', r = .ok (.nx env') h' → St pg g0 H0 gb τ g' H' h' env' σ' → SO pg X g0 H0 gb τ (f env' h') fun D => wSs X rest D σ' H') :
    SO pg X g0 H0 gb τ (r.bind fun o h1 => match o with | .nx e => f e h1 | o => .ok o h1) fun D => wSs X (st :: rest) D σ H := by
  have comb : ∀ D, wS X st { D with nx := fun σ' H' => wSs X rest D σ' H' } σ H → wSs X (st :: rest) D σ H := fun D hq => wSs_of (pss_cons ps_w pss_w) hq
  cases r with
  | no => exact trivial
  | ex e h' => exact fun W tk hW D => comb D (q W tk hW _)
  | ok o h' =>
    cases o with
    | nx env' =>
      show SO pg X g0 H0 gb τ (f env' h') _
      have k' := k env' h'
      cases hf : f env' h' with
      | no => exact trivial
      | ex e h2 =>
        refine fun W tk hW D => comb D (q _ fun σ' H' g' st => ?_)
        have := k' σ' H' g' rfl st
        rw [hf] at this
        exact this W tk hW D
      | ok o h2 =>
        cases o <;>
        · refine fun D hD => comb D (q _ fun σ' H' g' st => ?_)
          have := k' σ' H' g' rfl st
          rw [hf] at this
          exact this D hD
    | bk env' => exact fun D hD => comb D (q _ hD)
    | ct env' => exact fun D hD => comb D (q _ hD)
    | rt v => exact fun D hD => comb D (q _ hD)

/-! ### states that change -/
theorem St.later {g' : Gh} {H' : Hp} {h' : Sh} (st : St pg g0 H0 gb τ g H h env σ) (s : Sim pg.K g' h' H') (p : Pres g H g' H') : St pg g0 H0 gb τ g' H' h' env σ := ⟨s, st.pz.trans p, st.en.mono p, st.fr, st.ts⟩
/-- the later ghost anew -/
theorem St.rebase (st : St pg g0 H0 gb τ g H h env σ) : St pg g0 H0 g τ g H h env σ := ⟨st.sim, ⟨st.pre, fun _ _ e => e⟩, st.en, st.fr, st.ts⟩
theorem St.earlier {g1 : Gh} (st : St pg g0 H0 g1 τ g H h env σ) (m : ∀ a o, gb.Z a = some o → g1.Z a = some o) : St pg g0 H0 gb τ g H h env σ := ⟨st.sim, ⟨st.pre, fun a o e => st.pz.zm a o (m a o e)⟩, st.en, st.fr, st.ts⟩
theorem set_self {α : Type} {l : List α} {i : Nat} {x y : α} (e : (l.set i x)[i]? = some y) : y = x := by
  have hl : i < l.length := by
    have := (List.getElem?_eq_some_iff.mp e).1
    rw [List.length_set] at this
    exact this
  rw [List.getElem?_set_self hl] at e
  cases e; rfl
theorem EnR.setOwn {K : PySem.W.Frag} {Hs : Hp} {xs : List PyData} {a : Addr} {vs : List V} (r : EnR K g H env σ) (ow : OwnIn Hs env σ) {i : Nat} (e : H a = some (.lst vs)) (z : g.Z a = none) (ni : a ∉ g.ι) (rl : RpL K g.Z xs vs) (n0 : Hs a = none) :
    EnR K g H (env.set i (.own xs)) (σ.set i (some (.ref a))) := by
  refine ⟨by rw [List.length_set, List.length_set]; exact r.len, fun j s e1 => ?_, fun j k ys zs b e1 e2 e3 e4 => ?_⟩
  · by_cases hj : j = i
    · subst hj
      have hl : j < env.length := by
        have := (List.getElem?_eq_some_iff.mp e1).1
        rw [List.length_set] at this
        exact this
      cases set_self e1
      exact ⟨some (.ref a), by rw [List.getElem?_set_self (by rw [← r.len]; exact hl)], a, vs, rfl, e, z, ni, rl⟩
    · rw [List.getElem?_set_ne (Ne.symm hj)] at e1
      obtain ⟨o, q1, q2⟩ := r.at_ j s e1
      exact ⟨o, by rw [List.getElem?_set_ne (Ne.symm hj)]; exact q1, q2⟩
  · by_cases hj : j = i
    · by_cases hk : k = i
      · rw [hj, hk]
      · subst hj
        rw [List.getElem?_set_ne (Ne.symm hk)] at e2 e4
        have := set_self e3
        cases this
        exact (ow k _ _ e2 e4 n0).elim
    · by_cases hk : k = i
      · subst hk
        rw [List.getElem?_set_ne (Ne.symm hj)] at e1 e3
        have := set_self e4
        cases this
        exact (ow j _ _ e1 e3 n0).elim
      · rw [List.getElem?_set_ne (Ne.symm hj)] at e1 e3
        rw [List.getElem?_set_ne (Ne.symm hk)] at e2 e4
        exact r.dist j k _ _ b e1 e2 e3 e4
/-- a place that was free is still free of the def's entry -/
theorem fresh0 {a : Addr} (p : Pres g0 H0 g H) (n : H a = none) (ni : a ∉ g.ι) : H0 a = none := by
  cases e : H0 a with
  | none => rfl
  | some u =>
    by_cases m : a ∈ g0.ι
    · obtain ⟨t, et⟩ := p.i
      exact (ni (by rw [et]; exact List.mem_append_left _ m)).elim
    · have := (p.k a u e m).1
      rw [n] at this; cases this
theorem St.setOwn (hτ : τ = none) {g' : Gh} {H' : Hp} {h' : Sh} {xs : List PyData} {v : V} (st : St pg g0 H0 gb τ g H h env σ) (s : Sim pg.K g' h' H') (p : Pres g H g' H') (r : NwR pg.K H g' H' xs v) (i : Nat) : St pg g0 H0 gb τ g' H' h' (env.set i (.own xs)) (σ.set i (some v)) := by
  obtain ⟨a, vs, rfl, hH, z, ni, rl, n0⟩ := r
  have ni0 : a ∉ g.ι := fun m => by
    obtain ⟨t, et⟩ := p.i
    exact ni (by rw [et]; exact List.mem_append_left _ m)
  refine ⟨s, st.pz.trans p, (st.en.mono p).setOwn st.en.ownIn hH z ni rl n0, fun j ys b e1 e2 => ?_, fun s e => by rw [hτ] at e; cases e⟩
  by_cases hj : j = i
  · subst hj
    have := set_self e2
    cases this
    exact fresh0 st.pre n0 ni0
  · rw [List.getElem?_set_ne (Ne.symm hj)] at e1 e2
    exact st.fr j ys b e1 e2
theorem St.set (hτ : τ = none) (st : St pg g0 H0 gb τ g H h env σ) {x : Vl} {v : V} (r : VlR pg.K g x v) (i : Nat) : St pg g0 H0 gb τ g H h (env.set i (.v x)) (σ.set i (some v)) := by
  refine ⟨st.sim, st.pz, st.en.set r, fun j ys b e1 e2 => ?_, fun s e => by rw [hτ] at e; cases e⟩
  by_cases hj : j = i
  · subst hj
    have := set_self e1
    cases this
  · rw [List.getElem?_set_ne (Ne.symm hj)] at e1 e2
    exact st.fr j ys b e1 e2
/-- the frame's own list is changed -/
theorem St.chg (st : St pg g0 H0 gb τ g H h env σ) {i : Nat} {xs ys : List PyData} {a : Addr} {ws : List V} (e : env[i]? = some (.own xs)) (e2 : σ[i]? = some (some (.ref a))) (r : RpL pg.K g.Z ys ws) : St pg g0 H0 gb τ g (upd H a (.lst ws)) h (env.set i (.own ys)) σ := by
  obtain ⟨o, e3, b, vs, rfl, hH, z, ni, rl⟩ := st.en.at_ i _ e
  rw [e2] at e3
  cases e3
  have hi : i < env.length := (List.getElem?_eq_some_iff.mp e).1
  refine ⟨st.sim.apart z ni _, st.pz.apart (st.fr i xs a e e2) _, ⟨by rw [List.length_set]; exact st.en.len, fun j s e1 => ?_, fun j k us zs b e1 e2' e3 e4 => ?_⟩, fun j us b e1 e3 => ?_, st.ts⟩
  · by_cases hj : j = i
    · subst hj
      have := set_self e1
      subst this
      exact ⟨_, e2, a, ws, rfl, upd_same, z, ni, r⟩
    · rw [List.getElem?_set_ne (Ne.symm hj)] at e1
      obtain ⟨o, q1, q2⟩ := st.en.at_ j s e1
      refine ⟨o, q1, ?_⟩
      cases s with
      | no => trivial
      | v x => exact q2
      | own us =>
        obtain ⟨b, vs2, rfl, hb, zb, nb, rb⟩ := q2
        have hne : b ≠ a := fun y => by
          subst y
          exact hj (st.en.dist j i _ _ b e1 e q1 e2)
        exact ⟨b, vs2, rfl, by rw [upd_ne hne]; exact hb, zb, nb, rb⟩
  · have key : ∀ {j : Nat} {us : List PyData}, (env.set i (.own ys))[j]? = some (.own us) → ∃ us', env[j]? = some (.own us') := fun {j us} e1 => by
      by_cases hj : j = i
      · subst hj; exact ⟨xs, e⟩
      · rw [List.getElem?_set_ne (Ne.symm hj)] at e1; exact ⟨us, e1⟩
    obtain ⟨_, f1⟩ := key e1
    obtain ⟨_, f2⟩ := key e2'
    exact st.en.dist j k _ _ b f1 f2 e3 e4
  · by_cases hj : j = i
    · subst hj; exact st.fr j xs b e e3
    · rw [List.getElem?_set_ne (Ne.symm hj)] at e1
      exact st.fr j us b e1 e3
/-- .. it never changes again -/
theorem St.freeze (st : St pg g0 H0 gb τ g H h env σ) {i : Nat} {xs : List PyData} (e : env[i]? = some (.own xs)) : ∃ g', St pg g0 H0 gb τ g' H h (env.set i (.v (.d (.list xs)))) σ := by
  obtain ⟨o, e2, a, vs, rfl, hH, z, ni, rl⟩ := st.en.at_ i _ e
  obtain ⟨s2, zm⟩ := st.sim.freeze hH z ni
  have hi : i < env.length := (List.getElem?_eq_some_iff.mp e).1
  have own : ∀ {j : Nat} {us : List PyData}, (env.set i (.v (.d (.list xs))))[j]? = some (.own us) → j ≠ i ∧ env[j]? = some (.own us) := fun {j us} e1 => by
    by_cases hj : j = i
    · subst hj
      cases set_self e1
    · rw [List.getElem?_set_ne (Ne.symm hj)] at e1
      exact ⟨hj, e1⟩
  refine ⟨⟨upd g.Z a (.lst vs), g.ι⟩, s2, st.pz.freezeNew z (st.fr i xs a e e2), ⟨by rw [List.length_set]; exact st.en.len, fun j s e1 => ?_, fun j k us zs b e1 e2' e3 e4 => ?_⟩, fun j us b e1 e3 => ?_, st.ts⟩
  · by_cases hj : j = i
    · subst hj
      have := set_self e1
      subst this
      refine ⟨_, e2, _, rfl, ?_⟩
      simp only [VlR, Rp]
      exact ⟨a, vs, rfl, by show upd g.Z a _ a = _; rw [upd_same], RpL.mono zm xs vs rl⟩
    · rw [List.getElem?_set_ne (Ne.symm hj)] at e1
      obtain ⟨o, q1, q2⟩ := st.en.at_ j s e1
      refine ⟨o, q1, ?_⟩
      cases s with
      | no => trivial
      | v x =>
        obtain ⟨v, rfl, rv⟩ := q2
        refine ⟨v, rfl, ?_⟩
        cases x with
        | d x => exact Rp.mono zm x v rv
        | ref n => exact rv
        | fn n => exact rv
        | scr ns =>
          obtain ⟨b, e5, q5⟩ := rv
          exact ⟨b, e5, sqL_mono zm q5⟩
      | own us =>
        obtain ⟨b, vs2, rfl, hb, zb, nb, rb⟩ := q2
        have hne : b ≠ a := fun y => by
          subst y
          exact hj (st.en.dist j i _ _ b e1 e q1 e2)
        exact ⟨b, vs2, rfl, hb, by show upd g.Z a _ b = none; rw [upd_ne hne]; exact zb, nb, RpL.mono zm us vs2 rb⟩
  · obtain ⟨h1, f1⟩ := own e1
    obtain ⟨h2, f2⟩ := own e2'
    exact st.en.dist j k _ _ b f1 f2 e3 e4
  · obtain ⟨h1, f1⟩ := own e1
    exact st.fr j us b f1 e3
theorem wipe_ne {σ : Sg} {i : Nat} : ∀ {ws : List Nat}, i ∉ ws → (L2.wipe σ ws)[i]? = σ[i]?
  | [], _ => rfl
  | w :: ws, hn => by
    have hw : w ≠ i := fun e => hn (by rw [e]; exact List.mem_cons_self)
    show ((L2.wipe σ ws).set w none)[i]? = _
    rw [List.getElem?_set_ne hw]
    exact wipe_ne fun m => hn (List.mem_cons_of_mem _ m)
theorem bindIs_own : ∀ {is : List Nat} {xs : List PyData} {env env' : En} {i : Nat} {ys : List PyData}, bindIs is xs env = some env' → env'[i]? = some (.own ys) → i ∉ is ∧ env[i]? = some (.own ys)
  | [], [], env, env', i, ys, e, e1 => by
    simp only [bindIs, Option.some.injEq] at e
    subst e
    exact ⟨List.not_mem_nil, e1⟩
  | j :: is, x :: xs, env, env', i, ys, e, e1 => by
    obtain ⟨n1, e2⟩ := bindIs_own (is := is) e e1
    have hj : i ≠ j := fun z => by
      subst z
      cases set_self e2
    rw [List.getElem?_set_ne (Ne.symm hj)] at e2
    exact ⟨fun m => (List.mem_cons.mp m).elim hj n1, e2⟩
  | [], _ :: _, _, _, _, _, e, _ => by simp [bindIs] at e
  | _ :: _, [], _, _, _, _, e, _ => by simp [bindIs] at e
theorem bindTg_own {tg : Tg} {x : Vl} {env env' : En} {i : Nat} {ys : List PyData} (hs : (∃ is r, tg = .st is r) → False) (e : bindTg tg x env = some env') (e1 : env'[i]? = some (.own ys)) : i ∉ tg.names ∧ env[i]? = some (.own ys) := by
  unfold bindTg at e
  split at e
  · cases e
    rename_i j
    have hj : i ≠ j := fun z => by
      subst z
      cases set_self e1
    rw [List.getElem?_set_ne (Ne.symm hj)] at e1
    exact ⟨fun m => hj (by simpa [Tg.names] using m), e1⟩
  · exact bindIs_own e e1
  · exact bindIs_own e e1
  · exact (hs ⟨_, _, rfl⟩).elim
  · cases e
theorem St.bind (hτ : τ = none) {tg : Tg} {x : Vl} {v : V} {env' : En} {Q : Sg → Hp → Prop} (hs : (∃ is r, tg = .st is r) → False) (st : St pg g0 H0 gb τ g H h env σ) (e : bindTg tg x env = some env') (r : VlR pg.K g x v)
    (q : ∀ σ', St pg g0 H0 gb τ g H h env' σ' → Q σ' H) : gOf pg.K tg v σ H Q :=
  tg_ok hs e st.sim r st.en fun σ' en' wp => q σ' ⟨st.sim, st.pz, en', fun i ys a e1 e2 => by
    obtain ⟨n1, e3⟩ := bindTg_own hs e e1
    refine st.fr i ys a e3 ?_
    have := congrArg (fun l => l[i]?) (wp tg.names fun _ m => m)
    rw [wipe_ne n1, wipe_ne n1] at this
    rw [← this]
    exact e2, fun s e => by rw [hτ] at e; cases e⟩
end
end Mi
/-! Mi: statements: the text beside the terms; the small statements. -/
namespace Mi
open PySem PySem.Spec PyProof.Rows L2

def noComp : Expr → Bool
  | .ListComp .. => false
  | .SetComp .. => false
  | .DictComp .. => false
  | _ => true
def asgB (tg e : Expr) : Bool := noComp e && (match tg, e with
  | .Tuple .., .Tuple vs _ _ => vs.all (foldedForSure 8)
  | _, _ => true)
/-- name = [.. for ..]: on one line (true), on several (false) -/
def swK (c : Cd) (x : Str) (p : Pos) : Expr → Option Bool
  | .ListComp elt gens scope pos =>
    if decide (c.sc.names.lookup x = some .local) && (p.line == pos.line) && !(scope.names.any fun (n, k) => n == x && (k == .local || k == .cell)) then some true
    else if p.line == pos.line then none else some false
  | _ => none
def swB (c : Cd) (x : Str) (p : Pos) (e : Expr) : Bool := noComp e || (swK c x p e).isSome
def nmLoc (c : Cd) (l : Nat) : Nat → Expr → Bool
  | i, .Name x p => decide (c.N[i]? = some x) && decide (c.sc.names.lookup x = some .local) && (p.line == l)
  | _, _ => false
def headLine : List Expr → Nat
  | e :: _ => e.pos.line
  | [] => 0
def nmLocs (c : Cd) (l : Nat) : List Nat → List Expr → Bool
  | [], [] => true
  | i :: is, e :: es => nmLoc c l i e && nmLocs c l is es
  | _, _ => false
def parB (c : Cd) (is : List Nat) (ts vs : List Expr) : Bool :=
  (is.length == 2 || is.length == 3) && (vs.length == is.length) && decide is.Nodup && nmLocs c (headLine ts) is ts && noStars vs && !(vs.all (foldedForSure 8)) && !(vs.all (constantsAlone 8))
def okX (c : Cd) (tb : Tb) : Tm → Expr → Bool
  | .e p, e => okE c tb p e && !isPeek p
  | .l l, e => okL c tb l e
def okXs (c : Cd) (tb : Tb) : List Tm → List Expr → Bool
  | [], [] => true
  | t :: ts, e :: es => okX c tb t e && noStar e && okXs c tb ts es
  | _, _ => false
def okHt (c : Cd) (tb : Tb) (i : Nat) : Ht → Expr → Bool
  | .isx k cls, .Call (.Name x _) [.Name y _, .Name z _] [] _ => decide (x = ("isinstance" : Str)) && glB c x && decide (c.N[i]? = some y) && visB c.sc y && plainName y && glB c z && decide (tb.cs k = some z) && decide (cls = (List.range tb.nc).filter fun j => tb.sub j k)
  | .and a b, .BoolOp .And [a', b'] _ => okHt c tb i a a' && okHt c tb i b b'
  | .or a b, .BoolOp .Or [a', b'] _ => okHt c tb i a a' && okHt c tb i b b'
  | .not a, .UnaryOp .Not a' _ => okHt c tb i a a'
  | _, _ => false
def okH (c : Cd) (tb : Tb) (i : Nat) : He → Expr → Bool
  | .cst d, .Constant k _ _ => cstB d k
  | .ite t a b, .IfExp t' a' b' _ => okHt c tb i t t' && okH c tb i a a' && okH c tb i b b'
  | _, _ => false
mutual
/-- nothing is stored -/
def noAsg : Ts → Bool
  | .ret _ => true
  | .retN => true
  | .expr _ => true
  | .doc => true
  | .pass => true
  | .raise _ => true
  | .iff _ a b => noAsgs a && noAsgs b
  | _ => false
def noAsgs : List Ts → Bool
  | [] => true
  | s :: ss => noAsg s && noAsgs ss
end
mutual
def okT (c : Cd) (tb : Tb) : Ts → Stmt → Bool
  | .doc, .Expr (.Constant (.str _) _ _) _ => true
  | .asg (.st [i] r) e, .Assign [.Tuple [.Name x _, .Starred (.Name y _) _] _ _] (.Name z p) _ => stB c i x && stB c r y && okE c tb e (.Name z p) && !isPeek e
  | .asg tg e, .Assign [tg'] e' _ => tgB c tg tg' && okE c tb e e' && !isPeek e && asgB tg' e'
  | .own i l, .Assign [.Name x p] e' _ => stB c i x && okL c tb l e' && swB c x p e'
  | .par is ts, .Assign [.Tuple ts' _ _] (.Tuple vs' _ _) _ => parB c is ts' vs' && okXs c tb ts vs'
  | .aug i op e, .AugAssign (.Name x _) op' e' _ => stB c i x && decide (op = op') && (decide (op = .Add) || decide (op = .Sub)) && okE c tb e e' && !isPeek e
  | .setix r i e, .Assign [.Subscript r' i' _] e' _ => okE c tb r r' && okE c tb i i' && okE c tb e e' && noSlice i' && noComp e' && !isPeek r && !isPeek i && !isPeek e
  | .ownix s i e, .Assign [.Subscript (.Name x _) i' _] e' _ => nmB c s x && okE c tb i i' && okE c tb e e' && noSlice i' && noComp e' && !isPeek i && !isPeek e
  | .app s e, .Expr (.Call (.Attribute (.Name x _) nm ap) [e'] [] cp) _ => decide (nm = ("append" : Str)) && nmB c s x && okE c tb e e' && !isPeek e && noStar e' && (ap.endLine == cp.line)
  | .ext s e, .Expr (.Call (.Attribute (.Name x _) nm ap) [e'] [] cp) _ => decide (nm = ("extend" : Str)) && nmB c s x && okE c tb e e' && noStar e' && (ap.endLine == cp.line)
  | .expr e, .Expr e' _ => okE c tb e e' && noComp e'
  | .ret e, .Return (some e') _ => okE c tb e e' && !isPeek e
  | .retN, .Return none _ => true
  | .iff t a b, .If t' a' b' _ => okE c tb t t' && okTs c tb a a' && okTs c tb b b'
  | .for tg k es body, .For tg' it' body' [] _ => tgB c tg tg' && itB c (okEs c tb false es) tg k it' && okTs c tb body body'
  | .while t body, .While t' body' [] _ => okE c tb t t' && okTs c tb body body'
  | .raise k, .Raise (some (.Call (.Name x _) [.Constant (.str _) _ _] [] _)) none _ => glB c x && decide (tb.cs k = some x)
  | .tryE body k cls i hd, .Try body' [.ExceptHandler (some (.Name x _)) (some n) [.Return (some e') _] _] [] [] _ => okTs c tb body body' && noAsgs body && glB c x && decide (tb.cs k = some x) && decide (cls = (List.range tb.nc).filter fun j => tb.sub j k) &&
      decide (c.N[i]? = some n) && decide (c.sc.names.lookup n = some .local) && okH c tb i hd e'
  | .brk, .Break _ => true
  | .cont, .Continue _ => true
  | .pass, .Pass _ => true
  | .stop, _ => true
  | .raiseV k e, .Raise (some (.Call (.Name x _) [e'] [] _)) none _ => glB c x && (match tb.vc k with | some (y, _) => decide (x = y) | none => false) && okE c tb e e' && noStar e' && !isPeek e
  | .tryA body k cls i, .Try body' [.ExceptHandler (some (.Name x _)) (some n) [.Return (some (.List [.Attribute (.Name n2 _) f _] _)) _] _] [] [] _ => okTs c tb body body' && noAsgs body && glB c x && decide (tb.vc k = some (x, f)) && decide (cls = (List.range tb.nc).filter fun j => tb.sub j k) && decide (cls = [k]) &&
      decide (c.N[i]? = some n) && decide (c.sc.names.lookup n = some .local) && decide (n2 = n) && plainName n
  | .asgl i l, .Assign [.Name x p] e' _ => stB c i x && okL c tb l e' && swB c x p e'
  | .augr r i k, .AugAssign (.Subscript r' i' _) .Add (.Constant (.int k') _ _) _ => okE c tb r r' && okE c tb i i' && noSlice i' && !isPeek r && !isPeek i && decide (k = k')
  | .augix s i k, .AugAssign (.Subscript (.Name x _) i' _) .Add (.Constant (.int k') _ _) _ => nmB c s x && okE c tb i i' && noSlice i' && !isPeek i && decide (k = k')
  | _, _ => false
def okTs (c : Cd) (tb : Tb) : List Ts → List Stmt → Bool
  | [], [] => true
  | .freeze _ :: ss, sts => okTs c tb ss sts
  | s :: ss, st :: sts => okT c tb s st && okTs c tb ss sts
  | _, _ => false
end

section
variable {pg : Pg} {tb : Tb} {G : Nat → Option PyData} {C : Cf} {n : Nat} {X : Cx} {c : Cd} {g g0 gb : Gh} {τ : Option Sg} {H H0 : Hp} {σ : Sg} {h : Sh} {env : En} {W : Nat}

theorem sw_false {e : Expr} {t : Option Expr} {l : Nat} {env : Env} (hc : noComp e = true) : swapsWith e t l env = pure false := by
  cases e <;> first | rfl | cases hc
theorem GX.bk (gx : GX X c pg tb G C n) : X.env.blockKind = .function := by
  unfold Env.blockKind
  rw [gx.sc, gx.kd]
  rfl
theorem sw_lines {elt : Expr} {gs : List Comprehension} {scope : Scope} {pos py : Pos} {y : Str} {l : Nat} {env : Env} (hl : (py.line == pos.line) = false) : swapsWith (.ListComp elt gs scope pos) (some (.Name y py)) l env = pure false := by
  unfold swapsWith
  simp only [Expr.pos, hl, Bool.and_false, Bool.false_and]

theorem SO.doc {x : Str} {j : Nat} {p pos : Pos} (st : St pg g0 H0 gb τ g H h env σ) : SO pg X g0 H0 gb τ (evS C G W .doc env h) (fun D => wS X (.Expr (.Constant (.str x) j p) pos) D σ H) := by
  rw [evS]
  exact SO.nx st fun D hd => wS_of ps_doc hd
theorem SO.asg (hτ : τ = none) {tg : Tg} {e : Te} {tg' e' : Expr} {pos : Pos} (gx : GX X c pg tb G C n) (st : St pg g0 H0 gb τ g H h env σ) (ot : tgB c tg tg' = true) (oe : okE c tb e e' = true) (np : isPeek e = false) (oa : asgB tg' e' = true) :
    SO pg X g0 H0 gb τ (evS C G W (.asg tg e) env h) (fun D => wS X (.Assign [tg'] e' pos) D σ H) := by
  rw [evS]
  have nst : (∃ is r, tg = .st is r) → False := fun ⟨is, r, e⟩ => by subst e; cases tg' <;> cases ot
  unfold asgB at oa
  rw [Bool.and_eq_true] at oa
  obtain ⟨nc, oa⟩ := oa
  have hs : swapsWithSole [tg'] e' pos.line X.env = pure false := sw_false nc
  have hw : swappedStores [tg'] e' X.env = pure none := by
    cases tg <;> cases tg' <;> simp only [tgB] at ot <;> try cases ot
    · rfl
    · rename_i ts k p _
      cases e' <;> first | rfl | skip
      rename_i vs k2 p2
      have oa : vs.all (foldedForSure 8) = true := oa
      unfold swappedStores
      simp only [oa]
      split
      · rfl
      · split
        · rfl
        · split
          · rfl
          · rfl
  have h1 : (assignEach [tg'] X.env).map (·.2) = [assign tg' X.env] := by
    cases tg <;> cases tg' <;> simp only [tgB] at ot <;> first | rfl | cases ot
  refine SO.bindE (w2 := fun v H1 D => gOf pg.K tg v σ H1 D.nx) ((okE_all e _ X c g H σ env h gx oe st.sim st.en).vl np) st.pt (fun D hq => wS_of (ps_asg pe_w (pg_of gx ot) hs hw h1) hq) fun x h1 v H1 g1 _ s1 p1 r1 => ?_
  cases eb : bindTg tg x env with
  | none => exact trivial
  | some env' => exact fun D hD => (st.later s1 p1).bind hτ nst eb r1 fun σ' st' => hD σ' H1 g1 st'
theorem okLT {elt : Te} {tg : Tg} {k : Mi.It} {es cs : List Te} {elt' tg' it' : Expr} {ifs' : List Expr} {scope : Scope} {pos py spos : Pos} {i : Nat} {x : Str} (gx : GX X c pg tb G C n) (ok : okL c tb (.comp elt tg k es cs) (.ListComp elt' [⟨tg', it', ifs', 0⟩] scope pos) = true) (s : Sim pg.K g h H) (en : EnR pg.K g H env σ)
    (ost : stB c i x = true) (c1 : c.sc.names.lookup x = some .local) (c2 : (py.line == pos.line) = true) (c3 : (scope.names.any fun (n, k) => n == x && (k == .local || k == .cell)) = false) :
    ∃ te : TE, PS X (.Assign [.Name x py] (.ListComp elt' [⟨tg', it', ifs', 0⟩] scope pos) spos) (tAsg te (gName i)) ∧ SR pg X σ g H (NwR pg.K H) (evL C G (.comp elt tg k es cs) env h) (te σ H) := by
  simp only [okL, Bool.and_eq_true] at ok
  obtain ⟨⟨⟨⟨⟨⟨o1, o2⟩, o3⟩, o4⟩, o5⟩, o6⟩, o7⟩ := ok
  have ns := itB_noSet o4
  have q := SL.compT (pos := pos) gx o1 o2 (of_decide_eq_true o3) ns s en
      (SI.all gx o4 ⟨_, o2⟩ (fun ees oe => okEs_all es false ees X c g H σ env h gx oe s en) (fun e hp oe => okOne_all es e X c g H σ env h gx oe s en))
      (fun X' gx' env h σ g H s en => okCs_all cs _ X' _ g H σ env h gx' o5 s en)
      (fun X' gx' env h σ g H s en => (okE_all elt _ X' _ g H σ env h gx' o6 s en).vl (npk o7))
  have blk := blkOk_by o1
  obtain ⟨t1, t2, t3⟩ := stB_of gx ost
  have hyl : X.env.scope.names.lookup x = some .local := by rw [gx.sc]; exact c1
  have rule := ps_setLc (X := X) (i := i) (py := py) (spos := spos) (pos := pos) (elt := elt') (tg := tg') (iter := it') (ifs := ifs') (g := gOf pg.K tg)
    (tt := fun σ H Q => ∀ s0 H0 C0 cl fp, wCs (X.blk s0 H0 scope (compEnvC scope cl C0 X.env) fp) ifs' σ H Q) (te := fun σ H Q => ∀ s0 H0 C0 cl fp, wE (X.blk s0 H0 scope (compEnvC scope cl C0 X.env) fp) elt' σ H Q)
    gx.calm (by rw [gx.N]; exact gx.nd) t1 hyl (sw_true (by rw [gx.sc]; exact gx.kd) hyl c2 c3) pi_w (by rw [gx.N, gx.sc]; exact blk) (fun s0 H0 C0 cl fp => pg_of (gx.blk blk.kind s0 H0 C0 cl fp) o2) (fun s0 H0 C0 cl fp => ⟨fun pins s σ H Q I q => q s0 H0 C0 cl fp pins s I⟩)
    (fun s0 H0 C0 cl fp => ⟨fun pins s σ H Q I q => q s0 H0 C0 cl fp pins s I⟩) (folded_of ns)
  rw [of_decide_eq_true o3] at rule
  exact ⟨_, rule, q⟩
theorem okL_gens {elt : Te} {tg : Tg} {k : Mi.It} {es cs : List Te} {elt' : Expr} {gens : List Comprehension} {scope : Scope} {pos : Pos} (ok : okL c tb (.comp elt tg k es cs) (.ListComp elt' gens scope pos) = true) : ∃ tg' it' ifs', gens = [⟨tg', it', ifs', 0⟩] := by
  unfold okL at ok
  split at ok
  all_goals first | (cases ok; done) | (rename_i hq; cases hq; done) | skip
  · rename_i hq1 hq2
    cases hq2
    exact ⟨_, _, _, rfl⟩
theorem ownRule {l : Tl} {e' : Expr} {py spos : Pos} {i : Nat} {x : Str} (gx : GX X c pg tb G C n) (ok : okL c tb l e' = true) (s : Sim pg.K g h H) (en : EnR pg.K g H env σ) (ost : stB c i x = true) (osw : swB c x py e' = true) :
    ∃ te : TE, PS X (.Assign [.Name x py] e' spos) (tAsg te (gName i)) ∧ SR pg X σ g H (NwR pg.K H) (evL C G l env h) (te σ H) := by
  obtain ⟨t1, t2, t3⟩ := stB_of gx ost
  have plain : swapsWith e' (some (.Name x py)) spos.line X.env = pure false → ∃ te : TE, PS X (.Assign [.Name x py] e' spos) (tAsg te (gName i)) ∧ SR pg X σ g H (NwR pg.K H) (evL C G l env h) (te σ H) := fun hs =>
    ⟨_, ps_set (by rw [gx.N]; exact gx.nd) t1 t2 pe_w hs t3, okL_all l e' X c g H σ env h gx ok s en⟩
  unfold swB at osw
  rw [Bool.or_eq_true] at osw
  rcases osw with nc | hk
  · exact plain (sw_false nc)
  · unfold swK at hk
    split at hk
    · split at hk
      · rename_i cond
        rw [Bool.and_eq_true, Bool.and_eq_true] at cond
        obtain ⟨⟨c1, c2⟩, c3⟩ := cond
        cases l with
        | disp es => cases ok
        | cat a b => cases ok
        | comp elt tg k es cs =>
          obtain ⟨tg', it', ifs', rfl⟩ := okL_gens ok
          exact okLT gx ok s en ost (of_decide_eq_true c1) c2 (by simpa using c3)
      · split at hk
        · cases hk
        · rename_i hl
          exact plain (sw_lines (by simpa using hl))
    · cases hk
theorem SO.own (hτ : τ = none) {l : Tl} {e' : Expr} {py pos : Pos} {i : Nat} {x : Str} (gx : GX X c pg tb G C n) (st : St pg g0 H0 gb τ g H h env σ) (ost : stB c i x = true) (ok : okL c tb l e' = true) (osw : swB c x py e' = true) :
    SO pg X g0 H0 gb τ (evS C G W (.own i l) env h) (fun D => wS X (.Assign [.Name x py] e' pos) D σ H) := by
  rw [evS]
  obtain ⟨te, rule, q⟩ := ownRule (spos := pos) gx ok st.sim st.en ost osw
  refine SO.bindE (w2 := fun v H1 D => D.nx (σ.set i (some v)) H1) q st.pt (fun D hq => wS_of rule hq) fun xs h1 v H1 g1 _ s1 p1 r1 => ?_
  exact SO.nx (st.setOwn hτ s1 p1 r1 i) fun D hd => hd

theorem SO.asgl (hτ : τ = none) {l : Tl} {e' : Expr} {py pos : Pos} {i : Nat} {x : Str} (gx : GX X c pg tb G C n) (st : St pg g0 H0 gb τ g H h env σ) (ost : stB c i x = true) (ok : okL c tb l e' = true) (osw : swB c x py e' = true) :
    SO pg X g0 H0 gb τ (evS C G W (.asgl i l) env h) (fun D => wS X (.Assign [.Name x py] e' pos) D σ H) := by
  rw [evS]
  obtain ⟨te, rule, q⟩ := ownRule (spos := pos) gx ok st.sim st.en ost osw
  refine SO.bindE (w2 := fun v H1 D => gOf pg.K (.n i) v σ H1 D.nx) (SE.newl q) st.pt (fun D hq => wS_of rule hq) fun x h1 v H1 g1 _ s1 p1 r1 => ?_
  exact fun D hD => (st.later s1 p1).bind hτ (fun ⟨is, r, e⟩ => by cases e) (show bindTg (.n i) x env = some (env.set i (.v x)) from rfl) r1 fun σ' st' => hD σ' H1 g1 st'
/-! ### a, b = x, y -/
def XsR (K : PySem.W.Frag) (g : Gh) (H : Hp) : Hp → List Sl → List V → Prop
  | _, [], vs => vs = []
  | Hs, s :: r, vs => ∃ v t H1, vs = v :: t ∧ (∃ o, s ≠ .no ∧ o = some v ∧ SlR K g H s o) ∧ (∀ xs a, s = .own xs → v = .ref a → Hs a = none ∧ H1 a ≠ none) ∧ (∀ a, Hs a ≠ none → H1 a ≠ none) ∧ XsR K g H H1 r t
theorem XsR.mono {K : PySem.W.Frag} {g' : Gh} {H' : Hp} (p : Pres g H g' H') : ∀ {Hs : Hp} {xs : List Sl} {vs : List V}, XsR K g H Hs xs vs → XsR K g' H' Hs xs vs
  | _, [], _, r => r
  | _, s :: r, _, ⟨v, t, H1, e, ⟨o, hn, eo, q⟩, q2, q3, q4⟩ => ⟨v, t, H1, e, ⟨o, hn, eo, q.mono p⟩, q2, q3, XsR.mono p q4⟩
theorem Pres.more (s : Sim pg.K g h H) {g1 : Gh} {h1 : Sh} {H1 : Hp} (s1 : Sim pg.K g1 h1 H1) (p : Pres g H g1 H1) {a : Addr} (e : H a ≠ none) : H1 a ≠ none := by
  by_cases m : a ∈ g.ι
  · obtain ⟨t, et⟩ := p.i
    obtain ⟨u, hu⟩ := s1.tracked (a := a) (by rw [et]; exact List.mem_append_left _ m)
    rw [hu]
    exact fun z => nomatch z
  · cases q : H a with
    | none => exact (e q).elim
    | some u =>
      rw [(p.k a u q m).1]
      exact fun z => nomatch z
theorem okXs_all : ∀ (ts : List Tm) (ees : List Expr) {g : Gh} {H : Hp} {h : Sh} (gx : GX X c pg tb G C n) (s : Sim pg.K g h H) (en : EnR pg.K g H env σ), okXs c tb ts ees = true → SR pg X σ g H (fun g' H' xs vs => XsR pg.K g' H' H xs vs) (evXs C G ts env h) (wA X ees σ H)
  | [], ees, g, H, h, gx, s, en, ok => by
    cases ees with
    | cons _ _ => cases ok
    | nil =>
      rw [evXs]
      exact fun Q hQ => wA_of pa_nil (hQ [] H g s Pres.refl rfl)
  | t :: ts, ees, g, H, h, gx, s, en, ok => by
    cases ees with
    | nil => cases ok
    | cons e ees =>
      simp only [okXs, Bool.and_eq_true] at ok
      obtain ⟨⟨o1, o2⟩, o3⟩ := ok
      have comb : ∀ Q : List V → Hp → Prop, wE X e σ H (fun x H1 => wA X ees σ H1 fun xs H2 => Q (x :: xs) H2) → wA X (e :: ees) σ H Q := fun Q hq => wA_of (pa_cons pe_w pa_w (star_cons o2)) hq
      cases t with
      | e p =>
        simp only [okX, Bool.and_eq_true] at o1
        rw [evXs]
        refine SR.bind (w2 := fun x H1 Q => wA X ees σ H1 fun xs H2 => Q (x :: xs) H2) ((okE_all p _ X c g H σ env h gx o1.1 s en).vl (npk o1.2)) comb fun x h1 v H1 g1 _ s1 p1 r1 => ?_
        refine SR.bind (w2 := fun xs H2 Q => Q (v :: xs) H2) (okXs_all ts ees gx s1 (en.mono p1) o3) (fun _ hq => hq) fun xs h2 vs H2 g2 _ s2 p2 r2 => ?_
        exact fun Q hQ => hQ _ H2 g2 s2 Pres.refl ⟨v, vs, H1, rfl, ⟨some v, (fun z => nomatch z), rfl, v, rfl, VlR.mono p2 r1⟩, (fun _ _ z => nomatch z), fun a e => Pres.more s s1 p1 e, r2⟩
      | l p =>
        have o1 : okL c tb p e = true := o1
        rw [evXs]
        refine SR.bind (w2 := fun x H1 Q => wA X ees σ H1 fun xs H2 => Q (x :: xs) H2) (okL_all p _ X c g H σ env h gx o1 s en) comb fun x h1 v H1 g1 _ s1 p1 r1 => ?_
        refine SR.bind (w2 := fun xs H2 Q => Q (v :: xs) H2) (okXs_all ts ees gx s1 (en.mono p1) o3) (fun _ hq => hq) fun xs h2 vs H2 g2 _ s2 p2 r2 => ?_
        obtain ⟨a, ws, rfl, hH, z, ni, rl, n0⟩ := r1
        refine fun Q hQ => hQ _ H2 g2 s2 Pres.refl ⟨.ref a, vs, H1, rfl, ⟨_, (fun z => nomatch z), rfl, ?_⟩, fun xs b _ e => ?_, fun a e => Pres.more s s1 p1 e, r2⟩
        · exact SlR.mono p2 (s := .own x) ⟨a, ws, rfl, hH, z, ni, rl⟩
        · cases e
          exact ⟨n0, by rw [hH]; exact fun z => nomatch z⟩
def setAll : List Nat → List V → Sg → Sg
  | i :: is, v :: vs, σ => setAll is vs (σ.set i (some v))
  | _, _, σ => σ
theorem St.setAll (hτ : τ = none) : ∀ {is : List Nat} {xs : List Sl} {vs : List V} {env env' : En} {σ : Sg} {Hs : Hp}, bindAll is xs env = some env' → XsR pg.K g H Hs xs vs → OwnIn Hs env σ → (∀ a, Hs a = none → a ∉ g.ι → H0 a = none) → St pg g0 H0 gb τ g H h env σ →
    vs.length = is.length ∧ St pg g0 H0 gb τ g H h env' (Mi.setAll is vs σ)
  | [], [], vs, env, env', σ, Hs, e, r, ow, fr, st => by
    simp only [bindAll, Option.some.injEq] at e
    subst e
    have r : vs = [] := r
    subst r
    exact ⟨rfl, st⟩
  | i :: is, s :: xs, vs, env, env', σ, Hs, e, r, ow, fr, st => by
    obtain ⟨v, t, H1, rfl, ⟨o, hn, rfl, q⟩, q2, q3, q4⟩ := r
    have e : bindAll is xs (env.set i s) = some env' := e
    have ow1 : ∀ {env1 : En} {σ1 : Sg}, True → OwnIn H1 env σ := fun _ j ys a e1 e2 => q3 a (ow j ys a e1 e2)
    have main : St pg g0 H0 gb τ g H h (env.set i s) (σ.set i (some v)) ∧ OwnIn H1 (env.set i s) (σ.set i (some v)) := by
      cases s with
      | no => exact (hn rfl).elim
      | v x =>
        obtain ⟨v', ev, rx⟩ := q
        cases ev
        refine ⟨st.set hτ rx i, fun j ys a e1 e2 => ?_⟩
        by_cases hj : j = i
        · subst hj
          cases set_self e1
        · rw [List.getElem?_set_ne (Ne.symm hj)] at e1 e2
          exact q3 a (ow j ys a e1 e2)
      | own us =>
        obtain ⟨a, ws, ev, hH, z, ni, rl⟩ := q
        cases ev
        obtain ⟨n0, n1⟩ := q2 us a rfl rfl
        refine ⟨⟨st.sim, st.pz, st.en.setOwn ow hH z ni rl n0, fun j ys b e1 e2 => ?_, fun s e => by rw [hτ] at e; cases e⟩, fun j ys b e1 e2 => ?_⟩
        · by_cases hj : j = i
          · subst hj
            have := set_self e2
            cases this
            exact fr a n0 ni
          · rw [List.getElem?_set_ne (Ne.symm hj)] at e1 e2
            exact st.fr j ys b e1 e2
        · by_cases hj : j = i
          · subst hj
            have := set_self e2
            cases this
            exact n1
          · rw [List.getElem?_set_ne (Ne.symm hj)] at e1 e2
            exact q3 b (ow j ys b e1 e2)
    obtain ⟨l1, st2⟩ := St.setAll hτ (is := is) e q4 main.2 (fun a ha ni => fr a (by
      cases z : Hs a with
      | none => rfl
      | some u => exact (q3 a (by rw [z]; exact fun y => nomatch y) ha).elim) ni) main.1
    exact ⟨by rw [List.length_cons, List.length_cons, l1], st2⟩
  | [], _ :: _, _, _, _, _, _, e, _, _, _, _ => by simp [bindAll] at e
  | _ :: _, [], _, _, _, _, _, e, _, _, _, _ => by simp [bindAll] at e
theorem nmLoc_of {l i : Nat} {e : Expr} (ok : nmLoc c l i e = true) : ∃ x p, e = .Name x p ∧ c.N[i]? = some x ∧ c.sc.names.lookup x = some .local ∧ p.line = l := by
  cases e <;> simp only [nmLoc, Bool.and_eq_true] at ok <;> first | (cases ok; done) | skip
  rename_i x p
  exact ⟨x, p, rfl, of_decide_eq_true ok.1.1, of_decide_eq_true ok.1.2, eq_of_beq ok.2⟩
theorem nmLocs2 {l i j : Nat} {ts : List Expr} (ok : nmLocs c l [i, j] ts = true) : ∃ a b, ts = [a, b] ∧ nmLoc c l i a = true ∧ nmLoc c l j b = true := by
  rcases ts with _ | ⟨a, _ | ⟨b, _ | ⟨d, r⟩⟩⟩ <;> simp [nmLocs] at ok
  exact ⟨a, b, rfl, ok.1, ok.2⟩
theorem nmLocs3 {l i j k : Nat} {ts : List Expr} (ok : nmLocs c l [i, j, k] ts = true) : ∃ a b d, ts = [a, b, d] ∧ nmLoc c l i a = true ∧ nmLoc c l j b = true ∧ nmLoc c l k d = true := by
  rcases ts with _ | ⟨a, _ | ⟨b, _ | ⟨d, _ | ⟨e, r⟩⟩⟩⟩ <;> simp [nmLocs] at ok
  exact ⟨a, b, d, rfl, ok.1, ok.2.1, ok.2.2⟩
/-- the pair is not kept -/
theorem noStars_any : ∀ {vs : List Expr}, noStars vs = true → (vs.any fun | .Starred .. => true | _ => false) = false
  | [], _ => rfl
  | e :: es, ns => by
    rw [noStars, Bool.and_eq_true] at ns
    rw [List.any_cons, noStars_any ns.2, Bool.or_false]
    have := ns.1
    cases e <;> first | rfl | cases this
theorem swp2 {a b : Expr} {x y : Str} {px py : Pos} {k k2 : Nat} {p p2 : Pos} (gx : GX X c pg tb G C n) (ns : noStars [a, b] = true) (nf : [a, b].all (foldedForSure 8) = false) (nc : [a, b].all (constantsAlone 8) = false)
    (hx : X.env.kindOf x = some .local) (hy : X.env.kindOf y = some .local) (hl : py.line = px.line) (hne : x ≠ y) :
    swappedStores [.Tuple [.Name x px, .Name y py] k p] (.Tuple [a, b] k2 p2) X.env = pure (some [x, y]) := by
  have nst := noStars_any ns
  have ed : [x, y].eraseDups.length = 2 := by
    rw [List.eraseDups_cons, List.filter_cons]
    have : (!(y == x)) = true := by simpa using Ne.symm hne
    rw [if_pos this]
    rfl
  have ky : (y == x) = false := by simpa using Ne.symm hne
  unfold swappedStores
  simp only [gx.bk, nst, nf, nc, List.length_cons, List.length_nil, List.head?_cons, Option.map_some, Option.getD_some, Expr.pos, List.filterMap_cons, List.filterMap_nil, hx, hy, hl, beq_self_eq_true, Bool.and_self, if_true, ed]
  split
  · rename_i hh
    exact absurd hh (by decide)
  · split
    · rename_i hh
      have nst' := nst
      exact absurd (hh.symm.trans nst') (by decide)
    · rfl
theorem swp3 {a b d : Expr} {x y z : Str} {px py pz : Pos} {k k2 : Nat} {p p2 : Pos} (gx : GX X c pg tb G C n) (ns : noStars [a, b, d] = true) (nf : [a, b, d].all (foldedForSure 8) = false) (nc : [a, b, d].all (constantsAlone 8) = false)
    (hx : X.env.kindOf x = some .local) (hy : X.env.kindOf y = some .local) (hz : X.env.kindOf z = some .local) (hl : py.line = px.line) (hl2 : pz.line = px.line) (hxy : x ≠ y) (hxz : x ≠ z) (hyz : y ≠ z) :
    swappedStores [.Tuple [.Name x px, .Name y py, .Name z pz] k p] (.Tuple [a, b, d] k2 p2) X.env = pure (some [x, y, z]) := by
  have nst := noStars_any ns
  have ed : [x, y, z].eraseDups.length = 3 := by
    have h1 : (!(y == x)) = true := by simpa using Ne.symm hxy
    have h2 : (!(z == x)) = true := by simpa using Ne.symm hxz
    have h3 : (!(z == y)) = true := by simpa using Ne.symm hyz
    rw [List.eraseDups_cons, List.filter_cons, if_pos h1, List.filter_cons, if_pos h2, List.filter_nil, List.eraseDups_cons, List.filter_cons, if_pos h3]
    rfl
  unfold swappedStores
  simp only [gx.bk, nst, nf, nc, List.length_cons, List.length_nil, List.head?_cons, Option.map_some, Option.getD_some, Expr.pos, List.filterMap_cons, List.filterMap_nil, hx, hy, hz, hl, hl2, beq_self_eq_true, Bool.and_self, if_true, ed]
  split
  · rename_i hh
    exact absurd hh (by decide)
  · split
    · rename_i hh
      have nst' := nst
      exact absurd (hh.symm.trans nst') (by decide)
    · rfl
theorem ne_of_ix {i j : Nat} {x y : Str} (nd : c.N.Nodup) (h1 : c.N[i]? = some x) (h2 : c.N[j]? = some y) (hij : i ≠ j) : x ≠ y := fun e => by
  subst e
  obtain ⟨p1, q1⟩ := List.getElem?_eq_some_iff.mp h1
  obtain ⟨p2, q2⟩ := List.getElem?_eq_some_iff.mp h2
  exact hij ((List.getElem_inj nd).mp (q1.trans q2.symm))
theorem SO.par (hτ : τ = none) {is : List Nat} {tms : List Tm} {ts vs : List Expr} {k k2 : Nat} {p p2 pos : Pos} (gx : GX X c pg tb G C n) (st : St pg g0 H0 gb τ g H h env σ) (op : parB c is ts vs = true) (ok : okXs c tb tms vs = true) :
    SO pg X g0 H0 gb τ (evS C G W (.par is tms) env h) (fun D => wS X (.Assign [.Tuple ts k p] (.Tuple vs k2 p2) pos) D σ H) := by
  rw [evS]
  simp only [parB, Bool.and_eq_true] at op
  obtain ⟨⟨⟨⟨⟨⟨o1, o2⟩, o3⟩, o4⟩, o5⟩, o6⟩, o7⟩ := op
  have o3 := of_decide_eq_true o3
  have o6 : vs.all (foldedForSure 8) = false := by simpa using o6
  have o7 : vs.all (constantsAlone 8) = false := by simpa using o7
  have hv : vs.length = is.length := eq_of_beq o2
  have q := okXs_all tms vs gx st.sim st.en ok
  have loc : ∀ {x : Str}, c.sc.names.lookup x = some .local → X.env.scope.names.lookup x = some .local := fun z => by rw [gx.sc]; exact z
  have fin : (∀ D : Ends, wA X vs σ H (fun ws H1 => ws.length = is.length ∧ D.nx (Mi.setAll is ws σ) H1) → wS X (.Assign [.Tuple ts k p] (.Tuple vs k2 p2) pos) D σ H) → SO pg X g0 H0 gb τ ((evXs C G tms env h).bind fun xs h1 => match bindAll is xs env with
      | some env' => .ok (.nx env') h1
      | none => .no) (fun D => wS X (.Assign [.Tuple ts k p] (.Tuple vs k2 p2) pos) D σ H) := fun comb => by
    refine SO.bindE (w2 := fun ws H1 D => ws.length = is.length ∧ D.nx (Mi.setAll is ws σ) H1) q st.pt comb fun xs h1 ws H1 g1 _ s1 p1 r1 => ?_
    cases e : bindAll is xs env with
    | none => exact trivial
    | some env' =>
      obtain ⟨l1, st'⟩ := St.setAll hτ e r1 st.en.ownIn (fun a ha ni => fresh0 st.pre ha fun m => by
        obtain ⟨t, et⟩ := p1.i
        exact ni (by rw [et]; exact List.mem_append_left _ m)) (st.later s1 p1)
      exact fun D hD => ⟨l1, hD _ H1 g1 st'⟩
  rcases is with _ | ⟨i, _ | ⟨j, _ | ⟨l, _ | ⟨m, r⟩⟩⟩⟩
  · simp at o1
  · simp at o1
  · obtain ⟨ea, eb, rfl, n1, n2⟩ := nmLocs2 o4
    obtain ⟨x, px, rfl, x1, x2, x3⟩ := nmLoc_of n1
    obtain ⟨y, py, rfl, y1, y2, y3⟩ := nmLoc_of n2
    rcases vs with _ | ⟨a, _ | ⟨b, _ | ⟨d, r⟩⟩⟩ <;> simp at hv
    have hij : i ≠ j := by simpa using o3
    refine fin fun D hq => wS_of (ps_par gx.calm (by rw [gx.N]; exact gx.nd) (by rw [gx.N]; exact x1) (by rw [gx.N]; exact y1) hij (loc x2) (loc y2) pa_w (swp2 gx o5 o6 o7 (loc x2) (loc y2) (by rw [y3]; rfl) (ne_of_ix gx.nd x1 y1 hij)) rfl) ?_
    intro pos pins s I
    refine thn (hq pos pins s I) fun us s1 ⟨ws, H1, I1, rv, hl, hd⟩ => ⟨ws, H1, I1, rv, ?_⟩
    rcases ws with _ | ⟨u, _ | ⟨v, _ | ⟨w, r⟩⟩⟩ <;> simp at hl
    exact ⟨u, v, rfl, hd⟩
  · obtain ⟨ea, eb, ed, rfl, n1, n2, n3⟩ := nmLocs3 o4
    obtain ⟨x, px, rfl, x1, x2, x3⟩ := nmLoc_of n1
    obtain ⟨y, py, rfl, y1, y2, y3⟩ := nmLoc_of n2
    obtain ⟨z, pz, rfl, z1, z2, z3⟩ := nmLoc_of n3
    rcases vs with _ | ⟨a, _ | ⟨b, _ | ⟨d, _ | ⟨e, r⟩⟩⟩⟩ <;> simp at hv
    have nd : (i ≠ j ∧ i ≠ l) ∧ j ≠ l := by simpa using o3
    refine fin fun D hq => wS_of (ps_par3 gx.calm (by rw [gx.N]; exact gx.nd) (by rw [gx.N]; exact x1) (by rw [gx.N]; exact y1) (by rw [gx.N]; exact z1) nd.1.1 nd.1.2 nd.2 (loc x2) (loc y2) (loc z2) pa_w
      (swp3 gx o5 o6 o7 (loc x2) (loc y2) (loc z2) (by rw [y3]; rfl) (by rw [z3]; rfl) (ne_of_ix gx.nd x1 y1 nd.1.1) (ne_of_ix gx.nd x1 z1 nd.1.2) (ne_of_ix gx.nd y1 z1 nd.2)) rfl) ?_
    intro pos pins s I
    refine thn (hq pos pins s I) fun us s1 ⟨ws, H1, I1, rv, hl, hd⟩ => ⟨ws, H1, I1, rv, ?_⟩
    rcases ws with _ | ⟨u, _ | ⟨v, _ | ⟨w, _ | ⟨t, r⟩⟩⟩⟩ <;> simp at hl
    exact ⟨u, v, w, rfl, hd⟩
  · simp at o1
end
end Mi
/-! Mi: word, *parts = value. -/
namespace Mi
open PySem PySem.Spec PyProof.Rows L2
section
variable {prog : Program} {w : World} {A : Around} {E : Value → Shared → Prop} {s : Shared}
theorem unpack_starT {l : Addr} {items : Array Value} {i : Nat} {Q : List Value → Shared → Prop} (hl : IsTup s.heap l items) (hh : A.handled = none) (hn : i ≤ items.size) (hz : items.size ≤ sizeLine)
    (h : ∀ (h' : Heap) (tk : Nat), (∀ b o, s.heap.get? b = some o → h'.get? b = some o) → Q (items.toList.take i ++ [.ref h'.objs.size]) { s with heap := h'.push { cls := .type "list", data := .seq (items.toList.drop i).toArray }, toks := tk }) : wpAny (model prog w) A (unpackItems (.ref l) (i + 1) (some i)) Q E s := by
  have hll : l < s.heap.objs.size := hl.elim fun o q => Heap.lt_size q.1
  have hlt : l ≠ s.heap.objs.size := Nat.ne_of_lt hll
  unfold unpackItems notIterableAtAll
  refine wpAny_bind (wpAny_bind (wpAny_specialOf hl.typeIs slot_tuple_iter.lookup (wpAny_pure ?_)))
  simp only [Bool.false_eq_true, if_false]
  refine wpAny_bind (wpAny_holding (iter_tuple hl (wpAny_bind (wpAny_holding (draw_tuple hlt i 0 _ _ ⟨_, Heap.get?_push_size _ rfl, rfl, rfl⟩ (hl.push _) (by omega) fun h₁ hit₁ hs₁ => ?_)))))
  have hl₁ : IsTup h₁ l items := (hl.push _).extBut hs₁.extBut hlt
  rw [Nat.zero_add] at hit₁
  have l1 : s.heap.objs.size < h₁.objs.size := hit₁.elim fun o q => Heap.lt_size q.1
  have l2 : l < h₁.objs.size := hl₁.elim fun o q => Heap.lt_size q.1
  have hfl : ¬ (items.toList.take i).length < i := by rw [List.length_take, Array.length_toList]; omega
  rw [List.drop_zero, if_neg hfl]
  refine wpAny_bind (wpAny_holding (PySem.W.kun_collect (s := { s with heap := h₁ }) (T := "tuple_iterator") (.inr (.inr (.inr rfl))) (Walks.tuple (A := A.in1) hh s.heap.objs.size l hlt items) (fun j u st => st.1.typeIs) (k := i) hn ⟨hit₁, hl₁⟩ l1 l2 (fun h₂ tk hk => ?_) hz))
  have he : ∀ b o, s.heap.get? b = some o → h₂.get? b = some o := fun b o e => have hb : b ≠ s.heap.objs.size := Nat.ne_of_lt (Heap.lt_size e)
    hk b o hb (hs₁.extBut b o hb (Heap.get?_push_of_some _ e))
  show wpAny _ _ (if (items.toList.drop i).length < i + 1 - 1 - i then _ else _) _ _ _
  rw [if_neg (by omega)]
  show wpAny _ _ (newList ((items.toList.drop i).take ((items.toList.drop i).length - (i + 1 - 1 - i))) >>= fun d => pure (items.toList.take i ++ [d] ++ (items.toList.drop i).drop ((items.toList.drop i).length - (i + 1 - 1 - i)))) _ _ _
  have e0 : (items.toList.drop i).length - (i + 1 - 1 - i) = (items.toList.drop i).length := by omega
  rw [e0, List.take_length, List.drop_length]
  refine wpAny_bind (wpAny_newList (s := { s with heap := h₂, toks := tk }) (wpAny_pure ?_) (by rw [List.length_drop, Array.length_toList]; omega))
  rw [List.append_nil]
  exact h h₂ tk he
end
section
variable {pg : Pg} {tb : Tb} {G : Nat → Option PyData} {C : Cf} {n : Nat} {X : Cx} {c : Cd} {g g0 gb : Gh} {τ : Option Sg} {H H0 : Hp} {σ : Sg} {h : Sh} {env : En} {W : Nat}
def gSt (K : PySem.W.Frag) (i r : Nat) : TG := fun v σ H Q => ∃ a x xs, v = .ref a ∧ SqT K H a (x :: xs) ∧ ∀ p, H p = none → Q ((σ.set i (some x)).set r (some (.ref p))) (upd H p (.lst xs))
theorem pg_st {i r : Nat} {x y : Str} {p1 p2 p3 pos : Pos} {k : Nat} (gx : GX X c pg tb G C n) (o1 : stB c i x = true) (o2 : stB c r y = true) : PG X (.Tuple [.Name x p1, .Starred (.Name y p2) p3] k pos) (gSt X.K i r) := by
  refine ⟨fun pins s σ H v u Q I rv hw => ?_⟩
  obtain ⟨a, x0, xs, rfl, hq, hw⟩ := hw
  cases rv
  obtain ⟨its, rl, ht, hz⟩ := I.tuple hq
  have hlen := rl.length
  rw [List.length_cons] at hlen
  rw [assign_Tuple]
  refine wpAny_bind (wpAny_standAt ?_)
  unfold unpack
  show wpAny _ _ (holding _ (unpackItems (.ref a) 2 (some 1)) >>= fun vs => assignInOrder [assign (.Name x p1) X.env, assign (.Name y p2) X.env] vs) _ _ _
  refine wpAny_bind (wpAny_holding (unpack_starT (i := 1) ht (I.ok.hd gx.calm) (by rw [List.size_toArray]; omega) (by rw [List.size_toArray, ← hlen]; exact Nat.le_trans (Nat.le_of_eq (by simp)) hz) fun h' tk hx => ?_))
  have I1 : Inv X pins σ H { s with heap := h', toks := tk } := I.kept hx
  cases rl with
  | cons r0 rr =>
    rename_i u0 us
    have hz' : xs.length ≤ sizeLine := Nat.le_trans (Nat.le_of_lt (Nat.lt_succ_self _)) (by simpa using hz)
    have I2 : Inv X pins σ (upd H h'.objs.size (.lst xs)) { s with heap := h'.push { cls := .type "list", data := .seq ((u0 :: us).toArray.toList.drop 1).toArray }, toks := tk } :=
      I1.laid (t' := tk) (fun b o q => Heap.get?_push_of_some _ q) (Nat.le_refl _) ⟨hz', us, 0, rr, Heap.get?_push_size _ rfl⟩
    have nH : H h'.objs.size = none := I1.hok.fresh (Nat.le_refl _)
    refine assignInOrder_cons (thn ((pg_nm gx o1).run pins _ σ _ x0 u0 _ I2 r0 (show gName i x0 σ _ (fun σ' H' => σ' = σ.set i (some x0) ∧ H' = upd H h'.objs.size (.lst xs)) from ⟨rfl, rfl⟩)) fun _ s3 ⟨σ3, H3, I3, e1, e2⟩ => ?_)
    subst e1 e2
    refine assignInOrder_cons (thn ((pg_nm gx o2).run pins s3 _ _ (.ref h'.objs.size) (.ref h'.objs.size) _ I3 rfl (show gName r _ _ _ Q from hw _ nH)) fun _ s4 q => ?_)
    exact assignInOrder_nil q
theorem SO.star (hτ : τ = none) {i r : Nat} {e : Te} {x y z : Str} {p1 p2 p3 p4 p5 pos : Pos} {k : Nat} (gx : GX X c pg tb G C n) (st : St pg g0 H0 gb τ g H h env σ) (o1 : stB c i x = true) (o2 : stB c r y = true) (oe : okE c tb e (.Name z p4) = true) (np : isPeek e = false) :
    SO pg X g0 H0 gb τ (evS C G W (.asg (.st [i] r) e) env h) (fun D => wS X (.Assign [.Tuple [.Name x p1, .Starred (.Name y p2) p3] k p5] (.Name z p4) pos) D σ H) := by
  rw [evS]
  refine SO.bindE (w2 := fun v H1 (D : Ends) => gSt X.K i r v σ H1 D.nx) ((okE_all e _ X c g H σ env h gx oe st.sim st.en).vl np) st.pt (fun D hq => wS_of (ps_asg pe_w (pg_st gx o1 o2) rfl rfl rfl) hq) fun v h1 vv H1 g1 q1 s1 p1 r1 => ?_
  cases eb : bindTg (.st [i] r) v env with
  | none => exact trivial
  | some env' =>
    unfold bindTg at eb
    split at eb
    · rename_i hq; cases hq
    · rename_i hq; cases hq
    · rename_i hq; cases hq
    · rename_i is r' xs hq
      cases hq
      cases xs with
      | nil => simp [bindSt] at eb
      | cons d ds =>
        simp only [bindSt, Option.some.injEq] at eb
        subst eb
        have r1 : Rp pg.K g1.Z (.tuple (d :: ds)) vv := r1
        simp only [Rp] at r1
        obtain ⟨a, vs, rfl, hq, rl⟩ := r1
        simp only [RpL] at rl
        obtain ⟨v0, vr, rfl, rd, rr⟩ := rl
        have st1 := st.later s1 p1
        refine fun D hD => ⟨a, v0, vr, rfl, by rw [gx.hK]; exact sqT_mono s1.sub hq, fun p np => ?_⟩
        obtain ⟨s2, p2⟩ := s1.frozen np (.lst vr)
        have st2 := (st1.later s2 p2)
        have st3 := st2.set hτ (x := .d d) (Rp.mono p2.z _ _ rd) i
        have rl2 : Rp pg.K (upd g1.Z p (.lst vr)) (.list ds) (.ref p) := by
          simp only [Rp]
          exact ⟨p, vr, rfl, upd_same, RpL.mono p2.z _ _ rr⟩
        exact hD _ _ _ (st3.set hτ (x := .d (.list ds)) rl2 r)
    · cases eb
end
end Mi
/-! Mi: statements: lists changed, loops; all statements. -/
namespace Mi
open PySem PySem.Spec PyProof.Rows L2
section
variable {pg : Pg} {tb : Tb} {G : Nat → Option PyData} {C : Cf} {n : Nat} {X : Cx} {c : Cd} {g g0 gb : Gh} {τ : Option Sg} {H H0 : Hp} {σ : Sg} {h : Sh} {env : En} {W : Nat}

theorem pip_w {op : Operator} : PIp X op (fun x y H Q => ∀ σ, wO X (inplaceOp op) σ x y H Q) := fun pins s σ H x y v u Q I rx ry q => q σ pins s v u I rx ry
theorem SO.aug (hτ : τ = none) {i : Nat} {op : Operator} {e : Te} {x : Str} {e' : Expr} {p pos : Pos} (gx : GX X c pg tb G C n) (st : St pg g0 H0 gb τ g H h env σ) (ost : stB c i x = true) (oop : op = .Add ∨ op = .Sub) (oe : okE c tb e e' = true) (np : isPeek e = false) :
    SO pg X g0 H0 gb τ (evS C G W (.aug i op e) env h) (fun D => wS X (.AugAssign (.Name x p) op e' pos) D σ H) := by
  rw [evS]
  obtain ⟨t1, t2, t3⟩ := stB_of gx ost
  split
  · rename_i x0 ex
    obtain ⟨o, e1, v, rfl, rv⟩ := st.en.at_ i _ ex
    refine SO.bindE (w2 := fun y H1 D => ∀ σ', wO X (inplaceOp op) σ' v y H1 fun z H2 => D.nx (σ.set i (some z)) H2) ((okE_all e _ X c g H σ env h gx oe st.sim st.en).vl np) st.pt
      (fun D hq => wS_of (ps_aug (by rw [gx.N]; exact gx.nd) t1 t2 pe_w pip_w t3) ⟨v, e1, hq⟩) fun y h1 w H1 g1 q1 s1 p1 r1 => ?_
    cases y with
    | d y =>
      dsimp only
      by_cases hf : flatD x0 = true
      · rw [if_pos hf]
        cases eb : binD op x0 y with
        | none => exact trivial
        | some z => exact fun D hD σ' => aug_ok gx.hK s1 (.inl (VlR.mono p1 rv)) (.inl r1) hf eb oop fun z' H2 g2 s2 p2 r2 => hD _ H2 g2 (((st.later s1 p1).later s2 p2).set hτ (x := .d z) r2 i)
      · rw [if_neg hf]; exact trivial
    | _ => exact trivial
  · exact trivial
theorem sw_sole {t e : Expr} {l : Nat} {env : Env} (nc : noComp e = true) : swapsWithSole [t] e l env = pure false := (sw_false nc : swapsWith e (some t) l env = pure false)
theorem SO.setix {r i e : Te} {r' i' e' : Expr} {p2 pos : Pos} (gx : GX X c pg tb G C n) (st : St pg g0 H0 gb τ g H h env σ) (o1 : okE c tb r r' = true) (o2 : okE c tb i i' = true) (o3 : okE c tb e e' = true) (nsl : noSlice i' = true) (nc : noComp e' = true) (np1 : isPeek r = false) (np2 : isPeek i = false) (np3 : isPeek e = false) :
    SO pg X g0 H0 gb τ (evS C G W (.setix r i e) env h) (fun D => wS X (.Assign [.Subscript r' i' p2] e' pos) D σ H) := by
  rw [evS]
  have rule := ps_asg (X := X) (pos := pos) (tg := .Subscript r' i' p2) (pe_w (e := e')) (pg_sub (pe_w (e := r')) (pe_w (e := i')) set_list (by intro v; cases i' <;> first | rfl | cases nsl)) (sw_sole nc) rfl rfl
  refine SO.bindE (w2 := fun v H1 (D : Ends) => wE X r' σ H1 fun o H2 => wE X i' σ H2 fun j H3 => rSetL o j v H3 fun H4 => D.nx σ H4) ((okE_all e _ X c g H σ env h gx o3 st.sim st.en).vl np3) st.pt (fun D hq => wS_of rule hq) fun v h1 vv H1 g1 q1 s1 p1 r1 => ?_
  have st1 := st.later s1 p1
  refine SO.bindE (w2 := fun o H2 (D : Ends) => wE X i' σ H2 fun j H3 => rSetL o j vv H3 fun H4 => D.nx σ H4) ((okE_all r _ X c g1 H1 σ env h1 gx o1 st1.sim st1.en).vl np1) st1.pt (fun D hq => hq) fun x h2 xv H2 g2 q2 s2 p2 r2 => ?_
  have st2 := st1.later s2 p2
  refine SO.bindE (w2 := fun j H3 (D : Ends) => rSetL xv j vv H3 fun H4 => D.nx σ H4) ((okE_all i _ X c g2 H2 σ env h2 gx o2 st2.sim st2.en).vl np2) st2.pt (fun D hq => hq) fun y h3 yv H3 g3 q3 s3 p3 r3 => ?_
  have st3 := st2.later s3 p3
  split
  · rename_i v n j
    split
    · rename_i xs eo
      split
      · rename_i k ek
        have r2' := VlR.mono p3 r2
        obtain ⟨a, ea, rfl⟩ := r2'
        have r3 : Rp pg.K g3.Z (.int j) yv := r3
        simp only [Rp] at r3
        subst r3
        obtain ⟨a', ea', vs, hH, rl⟩ := s3.obj n _ eo
        rw [ea] at ea'
        cases ea'
        obtain ⟨s4, p4⟩ := s3.write ea (rl.set (Rp.mono (p2.trans p3).z _ _ r1) k)
        exact fun D hD => ⟨a, vs, j, k, rfl, rfl, hH, by rw [rl.length]; exact ek, hD σ _ g3 (st3.later s4 p4)⟩
      · exact trivial
    · exact trivial
  · exact trivial
theorem own_at (st : St pg g0 H0 gb τ g H h env σ) {i : Nat} {xs : List PyData} (e : env[i]? = some (.own xs)) : ∃ a vs, σ[i]? = some (some (.ref a)) ∧ H a = some (.lst vs) ∧ RpL pg.K g.Z xs vs := by
  obtain ⟨o, e2, a, vs, rfl, hH, z, ni, rl⟩ := st.en.at_ i _ e
  exact ⟨a, vs, e2, hH, rl⟩
theorem SO.ownix {j : Nat} {i e : Te} {x : Str} {i' e' : Expr} {p p2 pos : Pos} (gx : GX X c pg tb G C n) (st : St pg g0 H0 gb τ g H h env σ) (on : nmB c j x = true) (o2 : okE c tb i i' = true) (o3 : okE c tb e e' = true) (nsl : noSlice i' = true) (nc : noComp e' = true) (np2 : isPeek i = false) (np3 : isPeek e = false) :
    SO pg X g0 H0 gb τ (evS C G W (.ownix j i e) env h) (fun D => wS X (.Assign [.Subscript (.Name x p) i' p2] e' pos) D σ H) := by
  rw [evS]
  obtain ⟨n1, n2, n3, n4⟩ := nmB_of on
  have hv : PE X (.Name x p) (tVar j) := pe_var (by rw [gx.N]; exact n1) (gx.vis n2) n3 n4
  have rule := ps_asg (X := X) (pos := pos) (tg := .Subscript (.Name x p) i' p2) (pe_w (e := e')) (pg_sub hv (pe_w (e := i')) set_list (by intro v; cases i' <;> first | rfl | cases nsl)) (sw_sole nc) rfl rfl
  split
  · rename_i xs eo
    obtain ⟨a, vs, ea, _, _⟩ := own_at st eo
    refine SO.bindE (w2 := fun v H1 (D : Ends) => wE X i' σ H1 fun y H3 => rSetL (.ref a) y v H3 fun H4 => D.nx σ H4) ((okE_all e _ X c g H σ env h gx o3 st.sim st.en).vl np3) st.pt (fun D hq => wS_of rule (wE_mono hq fun v H1 q => ⟨.ref a, ea, q⟩)) fun v h1 vv H1 g1 q1 s1 p1 r1 => ?_
    have st1 := st.later s1 p1
    refine SO.bindE (w2 := fun y H3 (D : Ends) => rSetL (.ref a) y vv H3 fun H4 => D.nx σ H4) ((okE_all i _ X c g1 H1 σ env h1 gx o2 st1.sim st1.en).vl np2) st1.pt (fun D hq => hq) fun y h3 yv H3 g3 q3 s3 p3 r3 => ?_
    have st3 := st1.later s3 p3
    split
    · rename_i v k
      split
      · rename_i q eq
        have r3 : Rp pg.K g3.Z (.int k) yv := r3
        simp only [Rp] at r3
        subst r3
        obtain ⟨a', vs', ea', hH, rl⟩ := own_at st3 eo
        rw [ea] at ea'
        cases ea'
        exact fun D hD => ⟨a, vs', k, q, rfl, rfl, hH, by rw [rl.length]; exact eq, hD σ _ g3 (st3.chg eo ea (rl.set (Rp.mono p3.z _ _ r1) q))⟩
      · exact trivial
    · exact trivial
  · exact trivial
theorem get_list {X : Cx} : PGet X (rIxL X.K) := by
  intro pins s σ H o i ov iv Q I ro ri h
  obtain ⟨p, xs, j, z, rfl, rfl, hq, he, q⟩ := h
  obtain rfl : ov = Value.ref p := ro
  obtain ⟨t, rfl⟩ := ri
  obtain ⟨its, r, pl, hz⟩ := I.list hq
  obtain ⟨k, h1, h2, h3, h4, h5⟩ := L2.atI_get he
  obtain ⟨w, ew, rw'⟩ := r.get h2
  have hl := r.length
  have hn := line63
  by_cases h0 : 0 ≤ j
  · have hj : j.toNat = k := by
      rw [seqIndex_of h0 h5] at h1
      exact Option.some.inj h1
    exact wpAny_getItem_list pl.isList h0 (by omega) (by rw [hj]; simpa using ew) ⟨z, H, I, rw', q⟩
  · have hj : (j + (its.toArray.size : Int)).toNat = k := by
      rw [seqIndex_neg (by omega) h4] at h1
      rw [List.size_toArray, ← hl]
      exact Option.some.inj h1
    exact wpAny_getItem_list_neg pl.isList (by omega) (by rw [List.size_toArray] <;> omega) (by omega) (by rw [hj]; simpa using ew) ⟨z, H, I, rw', q⟩
theorem RpL.at_ {K : PySem.W.Frag} {Z : Hp} : ∀ {xs : List PyData} {vs : List V} {k : Nat} {i : Int}, RpL K Z xs vs → xs[k]? = some (.int i) → vs[k]? = some (.int i)
  | [], _, _, _, _, e => by simp at e
  | x :: xs, vs, 0, i, r, e => by
    simp only [RpL] at r
    obtain ⟨v, t, rfl, r1, _⟩ := r
    have e : x = .int i := by simpa using e
    subst e
    simp only [Rp] at r1
    rw [r1]; rfl
  | x :: xs, vs, k + 1, i, r, e => by
    simp only [RpL] at r
    obtain ⟨v, t, rfl, _, r2⟩ := r
    have := RpL.at_ (k := k) r2 (by simpa using e)
    simpa using this
theorem SO.augix {j : Nat} {i : Te} {n0 : Int} {x : Str} {i' : Expr} {k : Nat} {p p2 p3 pos : Pos} (gx : GX X c pg tb G C n) (st : St pg g0 H0 gb τ g H h env σ) (on : nmB c j x = true) (o2 : okE c tb i i' = true) (nsl : noSlice i' = true) (np2 : isPeek i = false) :
    SO pg X g0 H0 gb τ (evS C G W (.augix j i n0) env h) (fun D => wS X (.AugAssign (.Subscript (.Name x p) i' p2) .Add (.Constant (.int n0) k p3) pos) D σ H) := by
  rw [evS]
  obtain ⟨n1, n2, n3, n4⟩ := nmB_of on
  have hv : PE X (.Name x p) (tVar j) := pe_var (by rw [gx.N]; exact n1) (gx.vis n2) n3 n4
  have rule := ps_augS (X := X) (pos := pos) (tpos := p2) hv (pe_w (e := i')) get_list (pe_int (X := X) (i := n0) (j := k) (pos := p3)) ip_add set_list (by intro ov iv new; cases i' <;> first | rfl | cases nsl)
  split
  · rename_i xs eo
    obtain ⟨a, vs, ea, _, _⟩ := own_at st eo
    refine SO.bindE (w2 := fun y H3 (D : Ends) => rIxL X.K (.ref a) y H3 fun u H4 => tC (.int n0) σ H4 fun y' H5 => ipI (fun i j => i + j) u y' H5 fun z H6 => rSetL (.ref a) y z H6 fun H7 => D.nx σ H7) ((okE_all i _ X c g H σ env h gx o2 st.sim st.en).vl np2) st.pt (fun D hq => wS_of rule ⟨.ref a, ea, hq⟩) fun y h3 yv H3 g3 q3 s3 p3 r3 => ?_
    have st3 := st.later s3 p3
    split
    · rename_i v
      split
      · rename_i q eq
        split
        · rename_i old eold
          have r3 : Rp pg.K g3.Z (.int v) yv := r3
          simp only [Rp] at r3
          subst r3
          obtain ⟨a', vs', ea', hH, rl⟩ := own_at st3 eo
          rw [ea] at ea'
          cases ea'
          have ev := rl.at_ eold
          have eq' : L2.ixN vs'.length v = some q := by rw [rl.length]; exact eq
          refine fun D hD => ⟨a, vs', v, .int old, rfl, rfl, .of hH, by unfold L2.atI; rw [eq']; exact ev, ?_⟩
          exact ⟨old, n0, rfl, rfl, a, vs', v, q, rfl, rfl, hH, eq', hD σ _ g3 (st3.chg eo ea (rl.set (by simp only [Rp]) q))⟩
        · exact trivial
      · exact trivial
    · exact trivial
  · exact trivial
theorem SO.augr {r i : Te} {n0 : Int} {r' i' : Expr} {k : Nat} {p2 p3 pos : Pos} (gx : GX X c pg tb G C n) (st : St pg g0 H0 gb τ g H h env σ) (o1 : okE c tb r r' = true) (o2 : okE c tb i i' = true) (nsl : noSlice i' = true) (np1 : isPeek r = false) (np2 : isPeek i = false) :
    SO pg X g0 H0 gb τ (evS C G W (.augr r i n0) env h) (fun D => wS X (.AugAssign (.Subscript r' i' p2) .Add (.Constant (.int n0) k p3) pos) D σ H) := by
  rw [evS]
  have rule := ps_augS (X := X) (pos := pos) (tpos := p2) (pe_w (e := r')) (pe_w (e := i')) get_list (pe_int (X := X) (i := n0) (j := k) (pos := p3)) ip_add set_list (by intro ov iv new; cases i' <;> first | rfl | cases nsl)
  refine SO.bindE (w2 := fun o H1 (D : Ends) => wE X i' σ H1 fun y H3 => rIxL X.K o y H3 fun u H4 => tC (.int n0) σ H4 fun y' H5 => ipI (fun i j => i + j) u y' H5 fun z H6 => rSetL o y z H6 fun H7 => D.nx σ H7) ((okE_all r _ X c g H σ env h gx o1 st.sim st.en).vl np1) st.pt (fun D hq => wS_of rule hq) fun x h1 xv H1 g1 q1 s1 p1 r1 => ?_
  have st1 := st.later s1 p1
  refine SO.bindE (w2 := fun y H3 (D : Ends) => rIxL X.K xv y H3 fun u H4 => tC (.int n0) σ H4 fun y' H5 => ipI (fun i j => i + j) u y' H5 fun z H6 => rSetL xv y z H6 fun H7 => D.nx σ H7) ((okE_all i _ X c g1 H1 σ env h1 gx o2 st1.sim st1.en).vl np2) st1.pt (fun D hq => hq) fun y h3 yv H3 g3 q3 s3 p3 r3 => ?_
  have st3 := st1.later s3 p3
  split
  · rename_i m v
    split
    · rename_i xs eo
      split
      · rename_i q eq
        split
        · rename_i old eold
          obtain ⟨a, ea, rfl⟩ := VlR.mono p3 r1
          have r3 : Rp pg.K g3.Z (.int v) yv := r3
          simp only [Rp] at r3
          subst r3
          obtain ⟨a', ea', vs, hH, rl⟩ := s3.obj m _ eo
          rw [ea] at ea'
          cases ea'
          have ev := rl.at_ eold
          have eq' : L2.ixN vs.length v = some q := by rw [rl.length]; exact eq
          obtain ⟨s4, p4⟩ := s3.write ea (rl.set (show Rp pg.K g3.Z (.int (old + n0)) (.int (old + n0)) by simp only [Rp]) q)
          refine fun D hD => ⟨a, vs, v, .int old, rfl, rfl, .of hH, by unfold L2.atI; rw [eq']; exact ev, ?_⟩
          exact ⟨old, n0, rfl, rfl, a, vs, v, q, rfl, rfl, hH, eq', hD σ _ g3 (st3.later s4 p4)⟩
        · exact trivial
      · exact trivial
    · exact trivial
  · exact trivial
theorem ty_append : typeOf (.builtin "list.append") = pure (.type "method_descriptor") := by show builtinType _ = _; rw [builtinType_eq_fast]; kernel_rfl
theorem ty_extend : typeOf (.builtin "list.extend") = pure (.type "method_descriptor") := by show builtinType _ = _; rw [builtinType_eq_fast]; kernel_rfl
theorem pa_one {e : Expr} (ns : noStar e = true) : PA X [e] (fun σ H Q => wE X e σ H fun x H1 => Q [x] H1) := pa_cons pe_w pa_nil (star_cons ns)
theorem few_of {e : Expr} {cpos : Pos} (ns : noStar e = true) : ((backTo cpos (starEach [e] X.env)).all (fun x => !x.1) && (backToKw cpos (keywordEach [] X.env)).all (fun x => x.1.isSome)
      && decide ([e].length + ([] : List Keyword).length + (if ([] : List Keyword).isEmpty then 0 else 1) < 30)) = true := by
  rw [star_cons ns]
  rfl
theorem SO.app {j : Nat} {e : Te} {x nm : Str} {e' : Expr} {p ap cp pos : Pos} (gx : GX X c pg tb G C n) (st : St pg g0 H0 gb τ g H h env σ) (hnm : nm = ("append" : Str)) (on : nmB c j x = true) (o3 : okE c tb e e' = true) (np3 : isPeek e = false) (ns : noStar e' = true) (hl : (ap.endLine == cp.line) = true) :
    SO pg X g0 H0 gb τ (evS C G W (.app j e) env h) (fun D => wS X (.Expr (.Call (.Attribute (.Name x p) nm ap) [e'] [] cp) pos) D σ H) := by
  subst hnm
  rw [evS]
  obtain ⟨n1, n2, n3, n4⟩ := nmB_of on
  have hv : PE X (.Name x p) (tVar j) := pe_var (by rw [gx.N]; exact n1) (gx.vis n2) n3 n4
  have rule := ps_expr (X := X) (pos := pos) (pe_bm (X := X) PySem.F.plainAttrs_list PySem.F.slot_list_append ty_append mt_append hv (pa_one ns) rfl (few_of ns) hl (star_cons ns) rfl) rfl
  split
  · rename_i xs eo
    obtain ⟨a, vs, ea, hH, _⟩ := own_at st eo
    refine SO.bindE (w2 := fun v H1 (D : Ends) => rAppend (.ref a) [v] H1 fun _ H4 => D.nx σ H4) ((okE_all e _ X c g H σ env h gx o3 st.sim st.en).vl np3) st.pt (fun D hq => wS_of rule ⟨.ref a, ea, .inl ⟨rfl, vs, .of hH⟩, hq⟩) fun v h1 vv H1 g1 q1 s1 p1 r1 => ?_
    have st1 := st.later s1 p1
    split
    · rename_i v
      split
      · rename_i hz
        obtain ⟨a', vs', ea', hH', rl⟩ := own_at st1 eo
        rw [ea] at ea'
        cases ea'
        exact fun D hD => ⟨a, vs', vv, rfl, rfl, hH', by rw [rl.length, ← szL]; exact hz, hD σ _ g1 (st1.chg eo ea (rl.append (RpL.cons r1 RpL.nil)))⟩
      · exact trivial
    · exact trivial
  · exact trivial
theorem SO.ext {j : Nat} {e : Te} {x nm : Str} {e' : Expr} {p ap cp pos : Pos} (gx : GX X c pg tb G C n) (st : St pg g0 H0 gb τ g H h env σ) (hnm : nm = ("extend" : Str)) (on : nmB c j x = true) (o3 : okE c tb e e' = true) (ns : noStar e' = true) (hl : (ap.endLine == cp.line) = true) :
    SO pg X g0 H0 gb τ (evS C G W (.ext j e) env h) (fun D => wS X (.Expr (.Call (.Attribute (.Name x p) nm ap) [e'] [] cp) pos) D σ H) := by
  subst hnm
  rw [evS]
  obtain ⟨n1, n2, n3, n4⟩ := nmB_of on
  have hv : PE X (.Name x p) (tVar j) := pe_var (by rw [gx.N]; exact n1) (gx.vis n2) n3 n4
  have rule := ps_expr (X := X) (pos := pos) (pe_bm (X := X) PySem.F.plainAttrs_list PySem.F.slot_list_extend ty_extend mt_extend hv (pa_one ns) rfl (few_of ns) hl (star_cons ns) rfl) rfl
  split
  · rename_i xs eo
    obtain ⟨a, vs, ea, hH, _⟩ := own_at st eo
    refine SO.bindE (w2 := fun v H1 (D : Ends) => rExtend (.ref a) [v] H1 fun _ H4 => D.nx σ H4) (okE_all e _ X c g H σ env h gx o3 st.sim st.en).v st.pt (fun D hq => wS_of rule ⟨.ref a, ea, .inl ⟨rfl, vs, .of hH⟩, hq⟩) fun v h1 vv H1 g1 q1 s1 p1 r1 => ?_
    have st1 := st.later s1 p1
    split
    · rename_i ys
      split
      · rename_i hz
        obtain ⟨a', vs', ea', hH', rl⟩ := own_at st1 eo
        rw [ea] at ea'
        cases ea'
        obtain ⟨b, ws, rfl, hB, rl2⟩ := PkD.list s1 r1.pk
        exact fun D hD => ⟨a, b, vs', ws, rfl, rfl, hH', hB, by rw [rl.length, rl2.length, ← szL]; exact hz, hD σ _ g1 (st1.chg eo ea (rl.append rl2))⟩
      · exact trivial
    · exact trivial
  · exact trivial
theorem SO.expr {e : Te} {e' : Expr} {pos : Pos} (gx : GX X c pg tb G C n) (st : St pg g0 H0 gb τ g H h env σ) (oe : okE c tb e e' = true) (nc : noComp e' = true) :
    SO pg X g0 H0 gb τ (evS C G W (.expr e) env h) (fun D => wS X (.Expr e' pos) D σ H) := by
  rw [evS]
  refine SO.bindE (w2 := fun v H1 (D : Ends) => D.nx σ H1) (okE_all e _ X c g H σ env h gx oe st.sim st.en).v st.pt (fun D hq => wS_of (ps_expr pe_w (sw_false nc)) hq) fun v h1 vv H1 g1 q1 s1 p1 r1 => ?_
  exact SO.nx (st.later s1 p1) fun D hd => hd
theorem SO.ret {e : Te} {e' : Expr} {pos : Pos} (gx : GX X c pg tb G C n) (st : St pg g0 H0 gb τ g H h env σ) (oe : okE c tb e e' = true) (np : isPeek e = false) :
    SO pg X g0 H0 gb τ (evS C G W (.ret e) env h) (fun D => wS X (.Return (some e') pos) D σ H) := by
  rw [evS]
  refine SO.bindE (w2 := fun v H1 (D : Ends) => D.rt v H1) ((okE_all e _ X c g H σ env h gx oe st.sim st.en).vl np) st.pt (fun D hq => wS_of (ps_ret pe_w) hq) fun v h1 vv H1 g1 q1 s1 p1 r1 => ?_
  exact fun D hD => hD vv H1 g1 s1 (st.pz.trans p1) r1
theorem SO.retN {pos : Pos} (st : St pg g0 H0 gb τ g H h env σ) : SO pg X g0 H0 gb τ (evS C G W .retN env h) (fun D => wS X (.Return none pos) D σ H) := by
  rw [evS]
  exact fun D hD => wS_of ps_retN (hD .non H g st.sim st.pz (by simp only [VlR, Rp]))
theorem SO.iff {t : Te} {a b : List Ts} {t' : Expr} {a' b' : List Stmt} {pos : Pos} (gx : GX X c pg tb G C n) (st : St pg g0 H0 gb τ g H h env σ) (oe : okE c tb t t' = true)
    (ka : ∀ h1 H1 g1, St pg g0 H0 gb τ g1 H1 h1 env σ → SO pg X g0 H0 gb τ (evSs C G W a env h1) (fun D => wSs X a' D σ H1)) (kb : ∀ h1 H1 g1, St pg g0 H0 gb τ g1 H1 h1 env σ → SO pg X g0 H0 gb τ (evSs C G W b env h1) (fun D => wSs X b' D σ H1)) :
    SO pg X g0 H0 gb τ (evS C G W (.iff t a b) env h) (fun D => wS X (.If t' a' b' pos) D σ H) := by
  rw [evS]
  refine SO.bindE (w2 := fun k H1 (D : Ends) => if k = true then wSs X a' D σ H1 else wSs X b' D σ H1) (okE_all t _ X c g H σ env h gx oe st.sim st.en).t st.pt (fun D hq => wS_of (ps_if pt_w pss_w pss_w) hq) fun k h1 k' H1 g1 q1 s1 p1 r1 => ?_
  subst r1
  cases k with
  | true => exact ka h1 H1 g1 (st.later s1 p1)
  | false => exact kb h1 H1 g1 (st.later s1 p1)

/-! ### loops -/
theorem forLoop_stop {body : En → Sh → R Out} {tg : Tg} {env : En} : forLoop body tg [] env h = .ok (.nx env) h := rfl
theorem forLoop_cons {body : En → Sh → R Out} {tg : Tg} {x : Vl} {xs : List Vl} {env env' : En} (e : bindTg tg x env = some env') : forLoop body tg (x :: xs) env h = (body env' h).bind fun o h1 => match o with
      | .nx e => forLoop body tg xs e h1
      | .ct e => forLoop body tg xs e h1
      | .bk e => .ok (.nx e) h1
      | .rt v => .ok (.rt v) h1 := by
  rw [forLoop, e]
  all_goals rfl
/-- what the loop's end is, by the reader's result -/
def Fin (pg : Pg) (X : Cx) (g0 : Gh) (H0 : Hp) (gb : Gh) (τ : Option Sg) (r : R Out) (D : Ends) (K : Prop) : Prop := match r with
  | .ok (.nx env') h' => (∀ σ' H' g', St pg g0 H0 gb τ g' H' h' env' σ' → D.nx σ' H') → K
  | .ok (.bk env') h' => (∀ σ' H' g', St pg g0 H0 gb τ g' H' h' env' σ' → D.bk σ' H') → K
  | .ok (.ct env') h' => (∀ σ' H' g', St pg g0 H0 gb τ g' H' h' env' σ' → D.ct σ' H') → K
  | .ok (.rt x) h' => (∀ v H' g', Sim pg.K g' h' H' → PZ g0 H0 gb g' H' → VlR pg.K g' x v → D.rt v H') → K
  | .ex e h' => ∀ W : WX, Takes X W → (∀ cls dx σ' H' g', Sim pg.K g' h' H' → PQ g0 H0 gb τ g' H' σ' → ErR pg e cls dx H' g' → W cls dx σ' H') → K
  | .no => True
theorem SO.of {r : R Out} {w : Ends → Prop} (f : ∀ D, Fin pg X g0 H0 gb τ r D (w D)) : SO pg X g0 H0 gb τ r w := by
  cases r with
  | no => exact trivial
  | ex e h' => exact fun W tk hW D => f D W tk hW
  | ok o h' => cases o <;> exact fun D hD => f D hD
theorem SO.fin {r : R Out} {w : Ends → Prop} (q : SO pg X g0 H0 gb τ r w) (D : Ends) : Fin pg X g0 H0 gb τ r D (w D) := by
  cases r with
  | no => exact trivial
  | ex e h' => exact fun W tk hW => q W tk hW D
  | ok o h' => cases o <;> exact fun hD => q D hD
/-- the wish is kept: reach r with D -/
def Wish (pg : Pg) (X : Cx) (g0 : Gh) (H0 : Hp) (gb : Gh) (τ : Option Sg) (r : R Out) (D : Ends) : Prop := match r with
  | .ok (.nx env') h' => ∀ σ' H' g', St pg g0 H0 gb τ g' H' h' env' σ' → D.nx σ' H'
  | .ok (.bk env') h' => ∀ σ' H' g', St pg g0 H0 gb τ g' H' h' env' σ' → D.bk σ' H'
  | .ok (.ct env') h' => ∀ σ' H' g', St pg g0 H0 gb τ g' H' h' env' σ' → D.ct σ' H'
  | .ok (.rt x) h' => ∀ v H' g', Sim pg.K g' h' H' → PZ g0 H0 gb g' H' → VlR pg.K g' x v → D.rt v H'
  | .ex e h' => ∃ W : WX, Takes X W ∧ ∀ cls dx σ' H' g', Sim pg.K g' h' H' → PQ g0 H0 gb τ g' H' σ' → ErR pg e cls dx H' g' → W cls dx σ' H'
  | .no => False
theorem Fin.of {r : R Out} {D : Ends} {K : Prop} (f : Wish pg X g0 H0 gb τ r D → K) : Fin pg X g0 H0 gb τ r D K := by
  cases r with
  | no => exact trivial
  | ex e h' => exact fun W tk hW => f ⟨W, tk, hW⟩
  | ok o h' => cases o <;> exact fun hD => f hD
theorem SO.run {r : R Out} {w : Ends → Prop} (q : SO pg X g0 H0 gb τ r w) {D : Ends} (wi : Wish pg X g0 H0 gb τ r D) : w D := by
  cases r with
  | no => exact wi.elim
  | ex e h' => exact let ⟨W, tk, hW⟩ := wi; q W tk hW D
  | ok o h' => cases o <;> exact q D wi
theorem SO.earlier {g1 : Gh} {r : R Out} {w : Ends → Prop} (m : ∀ a o, gb.Z a = some o → g1.Z a = some o) (q : SO pg X g0 H0 g1 τ r w) : SO pg X g0 H0 gb τ r w := by
  cases r with
  | no => exact trivial
  | ex e h' => exact fun W tk hW D => q W tk (fun cls dx σ' H' g' s p e => hW cls dx σ' H' g' s ⟨⟨p.pz.pre, fun a o z => p.pz.zm a o (m a o z)⟩, p.ts⟩ e) D
  | ok o h' => cases o with
    | rt v => exact fun D hD => q D fun v H' g' s p r => hD v H' g' s ⟨p.pre, fun a o z => p.zm a o (m a o z)⟩ r
    | nx _ => exact fun D hD => q D fun σ' H' g' st => hD σ' H' g' (st.earlier m)
    | bk _ => exact fun D hD => q D fun σ' H' g' st => hD σ' H' g' (st.earlier m)
    | ct _ => exact fun D hD => q D fun σ' H' g' st => hD σ' H' g' (st.earlier m)
/-- a turn of a loop -/
theorem loop_turn {r rl : R Out} {f : En → Sh → R Out} {w : Ends → Prop} {D : Ends} {N : Sg → Hp → Prop} {g1 g' : Gh} (m1 : ∀ a o, gb.Z a = some o → g1.Z a = some o) (m : ∀ a o, g1.Z a = some o → g'.Z a = some o) (q : SO pg X g0 H0 g' τ r w)
    (el : (r.bind fun o h1 => match o with
      | .nx e => f e h1
      | .ct e => f e h1
      | .bk e => .ok (.nx e) h1
      | .rt v => .ok (.rt v) h1) = rl) (wi : Wish pg X g0 H0 gb τ rl D) (hN : ∀ σ2 H2 g2 env2 h2, St pg g0 H0 gb τ g2 H2 h2 env2 σ2 → (∀ a o, g1.Z a = some o → g2.Z a = some o) → f env2 h2 = rl → N σ2 H2) : w { D with nx := N, ct := N, bk := D.nx } := by
  have mm : ∀ a o, gb.Z a = some o → g'.Z a = some o := fun a o e => m a o (m1 a o e)
  cases r with
  | no =>
    have el : (R.no : R Out) = rl := el
    rw [← el] at wi
    exact wi.elim
  | ex e h' =>
    have el : (R.ex e h' : R Out) = rl := el
    rw [← el] at wi
    obtain ⟨W, tk, hW⟩ := wi
    exact q.earlier mm W tk hW _
  | ok o h' =>
    cases o with
    | nx e => exact q _ fun σ' H' g2 st => hN σ' H' g2 e h' (st.earlier mm) (fun a o z => st.pz.zm a o (m a o z)) el
    | ct e => exact q _ fun σ' H' g2 st => hN σ' H' g2 e h' (st.earlier mm) (fun a o z => st.pz.zm a o (m a o z)) el
    | bk e =>
      have el : (R.ok (.nx e) h' : R Out) = rl := el
      rw [← el] at wi
      exact q _ fun σ' H' g2 st => wi σ' H' g2 (st.earlier mm)
    | rt v =>
      have el : (R.ok (.rt v) h' : R Out) = rl := el
      rw [← el] at wi
      exact q _ fun v H' g2 s p r => wi v H' g2 s ⟨p.pre, fun a o z => p.zm a o (mm a o z)⟩ r
theorem SO.for (hτ : τ = none) {tg : Tg} {k : Mi.It} {es : List Te} {body : List Ts} {tg' it' : Expr} {body' : List Stmt} {pos : Pos} (gx : GX X c pg tb G C n) (st : St pg g0 H0 gb τ g H h env σ) (ot : tgB c tg tg' = true) (oi : itB c (okEs c tb false es) tg k it' = true)
    (kb : ∀ h1 H1 gb g1 env1 σ1, St pg g0 H0 gb τ g1 H1 h1 env1 σ1 → SO pg X g0 H0 gb τ (evSs C G W body env1 h1) (fun D => wSs X body' D σ1 H1)) :
    SO pg X g0 H0 gb τ (evS C G W (.for tg k es body) env h) (fun D => wS X (.For tg' it' body' [] pos) D σ H) := by
  have e0 : evS C G W (.for tg k es body) env h = (itR C G k es env h).bind fun items h1 => forLoop (evSs C G W body) tg items env h1 := by
    rw [evS]
    unfold itR
    cases evEs C G es env h with
    | no => rfl
    | ex _ _ => rfl
    | ok xs h1 =>
      show (match evIt k xs with | some items => _ | none => _) = R.bind (match evIt k xs with | some items => _ | none => _) _
      cases evIt k xs <;> rfl
  rw [e0]
  have nst : (∃ is r, tg = .st is r) → False := fun ⟨is, r, e⟩ => by subst e; cases tg' <;> cases ot
  have rule := ps_for (X := X) (pos := pos) (iter := it') (body := body') gx.po gx.calm pi_w (pg_of gx ot) pss_w (folded_of (itB_noSet oi))
  have q1 := SI.all gx oi ⟨c, ot⟩ (fun ees oe => okEs_all es false ees X c g H σ env h gx oe st.sim st.en) (fun e hp oe => okOne_all es e X c g H σ env h gx oe st.sim st.en)
  refine SO.bindE (w2 := fun (J : L2.It) H1 (D : Ends) => ∃ W : Nat → Nat → Sg → Hp → Prop, (∃ m, W 0 m σ H1) ∧ ∀ i m σ H, W i m σ H →
    (J.stop i H ∧ D.nx σ H) ∨ (J.go i H ∧ ∃ N : Sg → Hp → Prop, (∀ σ' H', N σ' H' → ∃ m', m' < m ∧ W (i + 1) m' σ' H') ∧ ∀ x H', J.yld i H x H' → gOf pg.K tg x σ H' fun σ2 H2 => wSs X body' { D with nx := N, ct := N, bk := D.nx } σ2 H2)) q1 st.pt (fun D hq => wS_of rule hq) fun items h1 J H1 g1 _ s1 p1 wk => ?_
  refine SO.of fun D => Fin.of fun wi => ?_
  refine ⟨fun i m σc Hc => m = items.length - i ∧ i ≤ items.length ∧ ∃ gc hc envc, St pg g0 H0 gb τ gc Hc hc envc σc ∧ (∀ a o, g1.Z a = some o → gc.Z a = some o) ∧ forLoop (evSs C G W body) tg (items.drop i) envc hc = forLoop (evSs C G W body) tg items env h1,
    ⟨items.length, by omega, Nat.zero_le _, g1, h1, env, st.later s1 p1, fun _ _ z => z, rfl⟩, ?_⟩
  rintro i m σc Hc ⟨rfl, hi, gc, hc, envc, sc, zm, el⟩
  by_cases hlt : i < items.length
  · refine .inr ⟨wk.go i gc hc Hc sc.sim zm hlt, fun σ' H' => ∃ gc hc envc, St pg g0 H0 gb τ gc H' hc envc σ' ∧ (∀ a o, g1.Z a = some o → gc.Z a = some o) ∧ forLoop (evSs C G W body) tg (items.drop (i + 1)) envc hc = forLoop (evSs C G W body) tg items env h1,
      fun σ' H' hN => ⟨items.length - (i + 1), by omega, rfl, hlt, hN⟩, fun x' H' y => ?_⟩
    obtain ⟨g', y', ei, s', p', ry⟩ := wk.yld i gc hc Hc x' H' sc.sim zm hlt y
    have edrop : items.drop i = y' :: items.drop (i + 1) := by
      rw [List.drop_eq_getElem_cons hlt]
      have := List.getElem?_eq_getElem hlt
      rw [ei] at this
      cases this
      rfl
    rw [edrop] at el
    cases eb : bindTg tg y' envc with
    | none =>
      rw [forLoop, eb] at el
      rw [← el] at wi
      exact wi.elim
    | some env' =>
      rw [forLoop_cons eb] at el
      refine (sc.later s' p').bind hτ nst eb ry fun σ2 st2 => ?_
      exact loop_turn (g1 := g1) (fun a o z => p1.z a o (st.pz.zm a o z)) (fun a o z => p'.z a o (zm a o z)) (kb hc H' g' g' env' σ2 st2.rebase) el wi fun σ3 H3 g3 env3 h3 st3 m3 e3 => ⟨g3, h3, env3, st3, m3, e3⟩
  · have ei : i = items.length := by omega
    subst ei
    rw [List.drop_length, forLoop_stop] at el
    rw [← el] at wi
    exact .inl ⟨wk.stop gc hc Hc sc.sim zm, wi σc Hc gc sc⟩
theorem SO.while {t : Te} {body : List Ts} {t' : Expr} {body' : List Stmt} {pos : Pos} (gx : GX X c pg tb G C n) (st : St pg g0 H0 gb τ g H h env σ) (oe : okE c tb t t' = true)
    (kb : ∀ h1 H1 gb g1 env1 σ1, St pg g0 H0 gb τ g1 H1 h1 env1 σ1 → SO pg X g0 H0 gb τ (evSs C G W body env1 h1) (fun D => wSs X body' D σ1 H1)) :
    SO pg X g0 H0 gb τ (evS C G W (.while t body) env h) (fun D => wS X (.While t' body' [] pos) D σ H) := by
  rw [evS]
  have rule := ps_while (X := X) (pos := pos) (c := t') (body := body') gx.po pt_w pss_w
  refine SO.of fun D => Fin.of fun wi => wS_of rule ?_
  refine ⟨fun m σc Hc => ∃ gc hc envc, St pg g0 H0 gb τ gc Hc hc envc σc ∧ whLoop (fun e g => tru (evE C G t e g)) (evSs C G W body) m envc hc = whLoop (fun e g => tru (evE C G t e g)) (evSs C G W body) W env h, ⟨W, g, h, env, st, rfl⟩, ?_⟩
  rintro m σc Hc ⟨gc, hc, envc, sc, el⟩
  cases m with
  | zero =>
    rw [whLoop] at el
    rw [← el] at wi
    exact wi.elim
  | succ m =>
    rw [whLoop] at el
    have q := (okE_all t _ X c gc Hc σc envc hc gx oe sc.sim sc.en).t
    cases et : tru (evE C G t envc hc) with
    | no =>
      rw [et] at el
      have el : (R.no : R Out) = _ := el
      rw [← el] at wi
      exact wi.elim
    | ex e h' =>
      rw [et] at el q
      have el : (R.ex e h' : R Out) = _ := el
      rw [← el] at wi
      obtain ⟨W', tk, hW⟩ := wi
      exact q W' tk (fun cls dx H' g' s p e => hW cls dx σc H' g' s ⟨sc.pz.trans p, sc.ts⟩ e) _
    | ok b h2 =>
      rw [et] at el q
      refine q _ fun b' H2 g2 s2 p2 rb => ?_
      subst rb
      have st2 := sc.later s2 p2
      cases b with
      | false =>
        have el : (R.ok (.nx envc) h2 : R Out) = _ := el
        rw [← el] at wi
        rw [if_neg Bool.false_ne_true]
        exact wi σc H2 g2 st2
      | true =>
        rw [if_pos rfl]
        refine ⟨fun σ' H' => ∃ gc hc envc, St pg g0 H0 gb τ gc H' hc envc σ' ∧ whLoop (fun e g => tru (evE C G t e g)) (evSs C G W body) m envc hc = whLoop (fun e g => tru (evE C G t e g)) (evSs C G W body) W env h, fun σ' H' hN => ⟨m, Nat.lt_succ_self m, hN⟩, ?_⟩
        exact loop_turn (g1 := gb) (fun _ _ z => z) (fun a o z => st2.pz.zm a o z) (kb h2 H2 g2 g2 envc σc st2.rebase) el wi fun σ3 H3 g3 env3 h3 st3 m3 e3 => ⟨g3, h3, env3, st3, e3⟩
end
end Mi
/-! Mi: raise, try. -/
namespace Mi
open PySem PySem.Spec PyProof.Rows L2
section
variable {pg : Pg} {tb : Tb} {G : Nat → Option PyData} {C : Cf} {n : Nat} {X : Cx} {c : Cd} {g g0 gb : Gh} {τ : Option Sg} {H H0 : Hp} {σ : Sg} {h : Sh} {env : En} {W : Nat}

theorem SO.raise {k j : Nat} {x m : Str} {p p1 p2 p3 : Pos} (gx : GX X c pg tb G C n) (st : St pg g0 H0 gb τ g H h env σ) (og : glB c x = true) (oc : tb.cs k = some x) :
    SO pg X g0 H0 gb τ (evS C G W (.raise k) env h) (fun D => wS X (.Raise (some (.Call (.Name x p) [.Constant (.str m) j p1] [] p2)) none p3) D σ H) := by
  rw [evS]
  obtain ⟨D0, ec, em, K⟩ := gx.ct.cs k x oc
  obtain ⟨o1, o2⟩ := glB_of og
  intro W' tk hW D
  have rs : Raises X (.ref D0) := raises_own (by rw [gx.hK]; exact K.be) (by rw [gx.hK]; exact K.ty)
  refine wS_of (ps_raise gx.calm tk (pmk_own PySem.F.excBase_ValueError (by rw [gx.hK]; exact K.ex) (by rw [gx.hm]; exact em) (by rw [gx.hK]; exact K.kp) rs (gx.gl' o1) o2)) ?_
  exact hW (.ref D0) none σ H g st.sim st.pt ⟨D0, ec, rfl, rfl⟩

theorem SO.raiseV {k : Nat} {x f : Str} {e : Te} {e' : Expr} {p p2 p3 : Pos} (gx : GX X c pg tb G C n) (st : St pg g0 H0 gb τ g H h env σ) (og : glB c x = true) (oc : tb.vc k = some (x, f)) (oe : okE c tb e e' = true) (os : noStar e' = true) (np : isPeek e = false) :
    SO pg X g0 H0 gb τ (evS C G W (.raiseV k e) env h) (fun D => wS X (.Raise (some (.Call (.Name x p) [e'] [] p2)) none p3) D σ H) := by
  rw [evS]
  obtain ⟨D0, ec, em, ef, K⟩ := gx.ct.vs k x f oc
  obtain ⟨o1, o2⟩ := glB_of og
  have q := (okE_all e _ X c g H σ env h gx oe st.sim st.en).vl np
  have mk := K.mkr X x p p2 e' gx.hP gx.hw gx.hK gx.hm gx.hb (gx.room.mono (by omega)) (passes_call takes0 fun _ _ _ _ z => z) (gx.gl' o1) (by rw [gx.hm]; exact em) o2 (star_cons os)
  have rule := fun (W' : WX) (tk : Takes X W') => ps_raise (pos := p3) gx.calm tk mk
  cases hr : evE C G e env h with
  | no => exact trivial
  | ex er h1 =>
    rw [hr] at q
    exact fun W' tk hW D => wS_of (rule W' tk) (q W' tk (fun cls dx H' g' s p er' => hW cls dx σ H' g' s ⟨st.pz.trans p, st.ts⟩ er') _)
  | ok y h1 =>
    rw [hr] at q
    cases y with
    | d v =>
      refine fun W' tk hW D => wS_of (rule W' tk) (q _ fun w H1 g1 s1 p1 r1 d nd => ?_)
      obtain ⟨s2, p2⟩ := s1.frozen nd (.xd [(f, w)])
      exact hW (.ref D0) (some d) σ _ _ s2 ⟨(st.pz.trans p1).trans p2, st.ts⟩ ⟨D0, ec, rfl, d, f, w, rfl, ef, upd_same, Rp.mono p2.z _ _ r1⟩
    | ref _ => exact trivial
    | fn _ => exact trivial
    | scr _ => exact trivial

/-! ### the except suite -/
/-- the frame of a def's body -/
structure FrX (X : Cx) : Prop where
  hs : X.stack = X.env :: X.outer
  hf : X.env.frame = some X.env.locals
/-- the error that a suite holds -/
structure Held (pg : Pg) (X X' : Cx) (a : Addr) (k : Nat) (D : Addr) : Prop where
  ex : ∃ (oe : Obj) (pn : List (Addr × Obj)), X' = X.suite a ((a, oe) :: pn) ∧ Zc (.ref D) none oe ∧ ∃ vs, oe.data = .fields vs
  cl : pg.cl k = some D
theorem Ht.ok {i k : Nat} {a D : Addr} {X' : Cx} (gx : GX X c pg tb G C n) (hd : Held pg X X' a k D) : ∀ (t : Ht) (e : Expr), okHt c tb i t e = true → PT X' e (fun σ H Q => σ[i]? = some (some (.ref a)) ∧ Q (evHt t k) H)
  | .isx m cls, e, ok => by
    unfold okHt at ok
    split at ok
    all_goals first | (cases ok; done) | (rename_i hq; cases hq; done) | skip
    rename_i hq
    cases hq
    rename_i x p1 y p2 z p3 p4
    simp only [Bool.and_eq_true] at ok
    obtain ⟨⟨⟨⟨⟨⟨⟨h1, h2⟩, h3⟩, h4⟩, h5⟩, h6⟩, h7⟩, h8⟩ := ok
    have h1 := of_decide_eq_true h1
    subst h1
    obtain ⟨oe, pn, rfl, hz, hf⟩ := hd.ex
    obtain ⟨lt, xc⟩ := gx.ct.lt k D hd.cl
    obtain ⟨E, ec, em, K⟩ := gx.ct.cs m z (of_decide_eq_true h7)
    obtain ⟨_, kit⟩ := gx.ct.sb k m D E hd.cl ec
    obtain ⟨o1, o2⟩ := glB_of h2
    obtain ⟨o3, o4⟩ := glB_of h6
    obtain ⟨o5, o6⟩ := plain_dbg h5
    have pv : PE (X.suite a ((a, oe) :: pn)) (.Name y p2) (tVar i) := pe_var (by show X.N[i]? = _; rw [gx.N]; exact of_decide_eq_true h3) (gx.vis h4) o5 o6
    have pz : PE (X.suite a ((a, oe) :: pn)) (.Name z p3) (tC (.ref E)) := pe_glob (gx.gl' o3) (by show X.mg z = _; rw [gx.hm]; exact em) rfl o4
    have rule := pe_callB (X := X.suite a ((a, oe) :: pn)) (p := p1) (pos := p4) (call_isE (by show ExcC X.K D; rw [gx.hK]; exact xc) hz hf) (gx.gl' o1) (bt_nm gx (by decide +kernel)) (by decide +kernel) (pa_cons pv (pa_cons pz pa_nil)) (by decide) o2
    refine ⟨fun pins s σ H Q I q => (pt_val rule).run pins s σ H Q I ?_⟩
    refine ⟨.ref a, q.1, .ref E, .ref E, tb.sub k m, rfl, fun u hu => hu, by show PySem.W.kitOne X.K _ _ = _; rw [gx.hK]; exact kit, _, rfl, ?_⟩
    have e1 : evHt (.isx m cls) k = tb.sub k m := by
      rw [evHt, of_decide_eq_true h8]
      have : (((List.range tb.nc).filter fun j => tb.sub j m).contains k) = decide (k ∈ (List.range tb.nc).filter fun j => tb.sub j m) := by simp
      rw [this]
      cases hb : tb.sub k m with
      | true => exact decide_eq_true (List.mem_filter.mpr ⟨List.mem_range.mpr lt, hb⟩)
      | false => exact decide_eq_false fun z => by rw [(List.mem_filter.mp z).2] at hb; cases hb
    rw [← e1]
    exact q.2
  | .and t u, e, ok => by
    unfold okHt at ok
    split at ok
    all_goals first | (cases ok; done) | (rename_i hq; cases hq; done) | skip
    rename_i hq
    cases hq
    rw [Bool.and_eq_true] at ok
    have q1 := Ht.ok gx hd t _ ok.1
    have q2 := Ht.ok gx hd u _ ok.2
    refine ⟨fun pins s σ H Q I q => (pw_and q1 (pw_and1 q2)).run _ pins s σ H Q I ⟨q.1, ?_⟩⟩
    have q := q
    rw [evHt] at q
    cases hb : evHt t k with
    | true => rw [hb, Bool.true_and] at q; exact q
    | false => rw [hb, Bool.false_and] at q; exact q.2
  | .or t u, e, ok => by
    unfold okHt at ok
    split at ok
    all_goals first | (cases ok; done) | (rename_i hq; cases hq; done) | skip
    rename_i hq
    cases hq
    rw [Bool.and_eq_true] at ok
    have q1 := Ht.ok gx hd t _ ok.1
    have q2 := Ht.ok gx hd u _ ok.2
    refine ⟨fun pins s σ H Q I q => (pw_or q1 (pw_or1 q2)).run _ pins s σ H Q I ⟨q.1, ?_⟩⟩
    have q := q
    rw [evHt] at q
    cases hb : evHt t k with
    | false => rw [hb, Bool.false_or] at q; exact q
    | true => rw [hb, Bool.true_or] at q; exact q.2
  | .not t, e, ok => by
    unfold okHt at ok
    split at ok
    all_goals first | (cases ok; done) | (rename_i hq; cases hq; done) | skip
    rename_i hq
    cases hq
    have q1 := Ht.ok gx hd t _ ok
    exact ⟨fun pins s σ H Q I q => (pt_not q1).run pins s σ H Q I ⟨q.1, by have := q.2; rw [evHt] at this; exact this⟩⟩
/-- plain data, told without a heap -/
theorem He.ok {i k : Nat} {a D : Addr} {X' : Cx} (gx : GX X c pg tb G C n) (hd : Held pg X X' a k D) : ∀ (t : He) (e : Expr), okH c tb i t e = true → PE X' e (fun σ H Q => σ[i]? = some (some (.ref a)) ∧ ∀ v, Rp pg.K (fun _ => none) (evH t k) v → Q v H)
  | .cst d, e, ok => by
    unfold okH at ok
    split at ok
    all_goals first | (cases ok; done) | (rename_i hq; cases hq; done) | skip
    rename_i hq
    cases hq
    unfold cstB at ok
    refine ⟨fun pins s σ H Q I q => ?_⟩
    have q := q.2
    split at ok
    · exact pe_non.run pins s σ H Q I (q _ (by simp only [evH, Rp]))
    · cases eq_of_beq ok; exact pe_bl.run pins s σ H Q I (q _ (by simp only [evH, Rp]))
    · cases eq_of_beq ok; exact pe_int.run pins s σ H Q I (q _ (by simp only [evH, Rp]))
    · cases eq_of_beq ok; exact pe_str.run pins s σ H Q I (q _ (by simp only [evH, Rp]))
    · cases ok
  | .ite t x y, e, ok => by
    unfold okH at ok
    split at ok
    all_goals first | (cases ok; done) | (rename_i hq; cases hq; done) | skip
    rename_i hq
    cases hq
    simp only [Bool.and_eq_true] at ok
    obtain ⟨⟨h1, h2⟩, h3⟩ := ok
    refine ⟨fun pins s σ H Q I q => (pe_ifExp (Ht.ok gx hd t _ h1) (He.ok gx hd x _ h2) (He.ok gx hd y _ h3)).run pins s σ H Q I ⟨q.1, ?_⟩⟩
    have q := q
    cases hb : evHt t k with
    | true =>
      refine (if_pos rfl : (if true = true then _ else _) = _).mpr ⟨q.1, fun v r => q.2 v ?_⟩
      rw [evH, hb]; exact r
    | false =>
      refine (if_neg Bool.false_ne_true : (if false = true then _ else _) = _).mpr ⟨q.1, fun v r => q.2 v ?_⟩
      rw [evH, hb]; exact r
theorem GX.try (gx : GX X c pg tb G C n) {pn : List (Addr × Obj)} {xe : Value → Shared → Prop} (po : PassesOwn (model X.prog X.w) X.A X.env xe) : GX (X.tr pn xe) c pg tb G C n :=
  ⟨gx.hP, gx.hw, gx.hK, gx.hm, gx.hb, gx.N, gx.nd, gx.sc, gx.kd, gx.fn, gx.calm, po, gx.room, gx.gd, gx.gl, gx.bt, gx.ct, gx.cl⟩
theorem St.tau {τ' : Option Sg} (st : St pg g0 H0 gb τ g H h env σ) (ts : ∀ s, τ' = some s → σ = s) : St pg g0 H0 gb τ' g H h env σ := ⟨st.sim, st.pz, st.en, st.fr, ts⟩
/-- a try whose one clause returns: hd tells what -/
theorem SO.tryG {body : List Ts} {k i : Nat} {cls : List Nat} {hd : Er → Sh → R Out} {body' : List Stmt} {x nm : Str} {b0 : Stmt} {rest : List Stmt} {p1 p3 p4 : Pos} {E : Addr} (gx : GX X c pg tb G C n) (hs : X.stack = X.env :: X.outer) (hf : X.env.frame = some X.env.locals) (st : St pg g0 H0 gb τ g H h env σ)
    (og : glB c x = true) (ec : pg.cl k = some E) (em : pg.mg x = some (.ref E)) (ol : cls = (List.range tb.nc).filter fun j => tb.sub j k) (oN : c.N[i]? = some nm) (ok : c.sc.names.lookup nm = some .local)
    (kb : ∀ (X' : Cx), GX X' c pg tb G C n → FrX X' → SO pg X' g0 H0 gb (some σ) (evSs C G W body env h) (fun D => wSs X' body' D σ H))
    (kh : ∀ er h', cls.contains er.c = true → ∀ (D0 a : Addr) (oe : Obj) (pn : List (Addr × Obj)) (dx : Option Addr) (g' : Gh) (H' : Hp), pg.cl er.c = some D0 → tb.sub er.c k = true → ErR pg er (.ref D0) dx H' g' → Sim pg.K g' h' H' → PZ g0 H0 gb g' H' → H' a = none →
      Zc (.ref D0) dx oe → (∃ vs, oe.data = .fields vs) → match hd er h' with
        | .ok (.rt x) h2 => ∀ D : Ends, (∀ v H2 g2, Sim pg.K g2 h2 H2 → PZ g0 H0 gb g2 H2 → VlR pg.K g2 x v → D.rt v H2) → wSs (X.suite a ((a, oe) :: pn)) (b0 :: rest) D (σ.set i (some (.ref a))) H'
        | .no => True
        | _ => False) :
    SO pg X g0 H0 gb τ (match evSs C G W body env h with
      | .ex e h' => if cls.contains e.c then hd e h' else .ex e h'
      | r => r) (fun D => wS X (.Try body' [.ExceptHandler (some (.Name x p1)) (some nm) (b0 :: rest) p3] [] [] p4) D σ H) := by
  obtain ⟨o1, o2⟩ := glB_of og
  have hln : X.env.kindOf nm = some .local := by show X.env.scope.names.lookup nm = _; rw [gx.sc]; exact ok
  have names : Names X x (.ref E) := ⟨gx.gl' o1, o2, .inl (by rw [gx.hm]; exact em)⟩
  have rule := fun (Wout : WX) (tk : Takes X Wout) => ps_try_as (X := X) (np := p1) (pos := p4) (pos' := p3) (body := body') (b₀ := b0) (suite := rest) (i := i) (Wout := Wout)
    (tb := fun W D σ H => ∀ pn xe, Takes (X.tr pn xe) W → PassesOwn (model X.prog X.w) X.A X.env xe → wSs (X.tr pn xe) body' D σ H)
    (ts := fun a cls d D σ H => ∀ oe pn, Zc cls d oe → (∃ vs, oe.data = .fields vs) → wSs (X.suite a ((a, oe) :: pn)) (b0 :: rest) D σ H)
    hs hf (by rw [gx.N]; exact gx.nd) (by rw [gx.N]; exact oN) hln names tk (fun W pn xe tk po => ⟨fun pins s σ H D I q => q pn xe tk po pins s I⟩) (fun a oe cls d pn hz hv => ⟨fun pins s σ H D I q => q oe pn hz hv pins s I⟩)
  have ts' : ∀ {σ' : Sg} {g' : Gh} {H' : Hp} {h' : Sh} {env' : En}, St pg g0 H0 gb (some σ) g' H' h' env' σ' → St pg g0 H0 gb τ g' H' h' env' σ' := fun q => q.tau fun s e => (q.ts σ rfl).trans (st.ts s e)
  cases hr : evSs C G W body env h with
  | no => exact trivial
  | ok o h' =>
    have go : ∀ D : Ends, (∀ X', GX X' c pg tb G C n → FrX X' → wSs X' body' D σ H) → wS X (.Try body' [.ExceptHandler (some (.Name x p1)) (some nm) (b0 :: rest) p3] [] [] p4) D σ H := fun D q =>
      wS_of (rule _ takes0) fun pn xe tk po => q (X.tr pn xe) (gx.try po) (FrX.mk (X := X.tr pn xe) hs hf)
    cases o with
    | nx env' =>
      refine fun D hD => go D fun X' gx' fx' => ?_
      have q := kb X' gx' fx'
      rw [hr] at q
      exact q D fun σ' H' g' st' => hD σ' H' g' (ts' st')
    | bk env' =>
      refine fun D hD => go D fun X' gx' fx' => ?_
      have q := kb X' gx' fx'
      rw [hr] at q
      exact q D fun σ' H' g' st' => hD σ' H' g' (ts' st')
    | ct env' =>
      refine fun D hD => go D fun X' gx' fx' => ?_
      have q := kb X' gx' fx'
      rw [hr] at q
      exact q D fun σ' H' g' st' => hD σ' H' g' (ts' st')
    | rt v =>
      refine fun D hD => go D fun X' gx' fx' => ?_
      have q := kb X' gx' fx'
      rw [hr] at q
      exact q D hD
  | ex er h' =>
    -- an error of the body
    have key : ∀ (D : Ends) (Wout : WX), Takes X Wout → (∀ cls dx σ' H' g', σ' = σ → Sim pg.K g' h' H' → PZ g0 H0 gb g' H' → ErR pg er cls dx H' g' → wAs X.K (.ref E) i (fun a cls d D σ H => ∀ oe pn, Zc cls d oe → (∃ vs, oe.data = .fields vs) → wSs (X.suite a ((a, oe) :: pn)) (b0 :: rest) D σ H) Wout D cls dx σ' H') →
        wS X (.Try body' [.ExceptHandler (some (.Name x p1)) (some nm) (b0 :: rest) p3] [] [] p4) D σ H := fun D Wout tk q => by
      refine wS_of (rule Wout tk) fun pn xe tk' po => ?_
      have q2 := kb (X.tr pn xe) (gx.try po) (FrX.mk (X := X.tr pn xe) hs hf)
      rw [hr] at q2
      exact q2 _ tk' (fun cls dx σ' H' g' s p e => q cls dx σ' H' g' (p.ts σ rfl) s p.pz e) D
    have cont : cls.contains er.c = true → ∀ D0, pg.cl er.c = some D0 → tb.sub er.c k = true := fun hc D0 e0 => by
      rw [ol] at hc
      have := (List.mem_filter.mp (by simpa using hc : er.c ∈ (List.range tb.nc).filter fun j => tb.sub j k)).2
      exact this
    have ncont : cls.contains er.c = false → ∀ D0, pg.cl er.c = some D0 → tb.sub er.c k = false := fun hc D0 e0 => by
      cases hb : tb.sub er.c k with
      | false => rfl
      | true =>
        have : cls.contains er.c = true := by
          rw [ol]
          have m : er.c ∈ (List.range tb.nc).filter fun j => tb.sub j k := List.mem_filter.mpr ⟨List.mem_range.mpr (gx.ct.lt _ _ e0).1, hb⟩
          simpa using m
        rw [hc] at this; cases this
    dsimp only
    cases hc : cls.contains er.c with
    | true =>
      rw [if_pos rfl]
      have kh' := fun D0 a oe pn dx g' H' q1 => kh er h' hc D0 a oe pn dx g' H' q1
      cases hq : hd er h' with
      | no => exact trivial
      | ex e2 h2 =>
        exact fun W' tk hW D => key D _ takes0 fun cl dx σ' H' g' es s' p' er' => by
          obtain ⟨D0, e0, rfl, hv⟩ := er'
          have hsub := cont hc D0 e0
          refine ⟨true, by rw [gx.hK, ← hsub]; exact (gx.ct.sb _ _ _ _ e0 ec).1, fun _ a na oe pn hz hvs => ?_, (fun z => nomatch z)⟩
          have := kh' D0 a oe pn dx g' H' e0 hsub ⟨D0, e0, rfl, hv⟩ s' p' na hz hvs
          rw [hq] at this
          exact this.elim
      | ok o h2 =>
        have bad : ∀ {K : Ends → Prop}, (∀ y, o ≠ .rt y) → ∀ D : Ends, wS X (.Try body' [.ExceptHandler (some (.Name x p1)) (some nm) (b0 :: rest) p3] [] [] p4) D σ H := fun {K} no D => key D _ takes0 fun cl dx σ' H' g' es s' p' er' => by
          obtain ⟨D0, e0, rfl, hv⟩ := er'
          have hsub := cont hc D0 e0
          refine ⟨true, by rw [gx.hK, ← hsub]; exact (gx.ct.sb _ _ _ _ e0 ec).1, fun _ a na oe pn hz hvs => ?_, (fun z => nomatch z)⟩
          have := kh' D0 a oe pn dx g' H' e0 hsub ⟨D0, e0, rfl, hv⟩ s' p' na hz hvs
          rw [hq] at this
          cases o <;> first | exact this.elim | exact (no _ rfl).elim
        cases o with
        | nx e2 => exact fun D hD => bad (K := fun _ => True) (fun y z => nomatch z) D
        | bk e2 => exact fun D hD => bad (K := fun _ => True) (fun y z => nomatch z) D
        | ct e2 => exact fun D hD => bad (K := fun _ => True) (fun y z => nomatch z) D
        | rt y =>
          refine fun D hD => key D _ takes0 fun cl dx σ' H' g' es s' p' er' => ?_
          subst es
          obtain ⟨D0, e0, rfl, hv⟩ := er'
          have hsub := cont hc D0 e0
          refine ⟨true, by rw [gx.hK, ← hsub]; exact (gx.ct.sb _ _ _ _ e0 ec).1, fun _ a na oe pn hz hvs => ?_, (fun z => nomatch z)⟩
          have := kh' D0 a oe pn dx g' H' e0 hsub ⟨D0, e0, rfl, hv⟩ s' p' na hz hvs
          rw [hq] at this
          exact this _ fun v H2 g2 s2 p2 r2 => hD v H2 g2 s2 p2 r2
    | false =>
      rw [if_neg Bool.false_ne_true]
      refine fun W' tk hW D => key D W' tk fun cl dx σ' H' g' es s' p' er' => ?_
      subst es
      have er2 := er'
      obtain ⟨D0, e0, rfl, hv⟩ := er'
      have hsub := ncont hc D0 e0
      exact ⟨false, by rw [gx.hK, ← hsub]; exact (gx.ct.sb _ _ _ _ e0 ec).1, (fun z => nomatch z), fun _ => hW _ _ _ _ g' s' ⟨p', st.ts⟩ er2⟩
theorem SO.tryE {body : List Ts} {k i : Nat} {cls : List Nat} {hd : He} {body' : List Stmt} {x nm : Str} {e' : Expr} {p1 p2 p3 p4 : Pos} (gx : GX X c pg tb G C n) (hs : X.stack = X.env :: X.outer) (hf : X.env.frame = some X.env.locals) (st : St pg g0 H0 gb τ g H h env σ)
    (og : glB c x = true) (oc : tb.cs k = some x) (ol : cls = (List.range tb.nc).filter fun j => tb.sub j k) (oN : c.N[i]? = some nm) (ok : c.sc.names.lookup nm = some .local) (oh : okH c tb i hd e' = true)
    (kb : ∀ (X' : Cx), GX X' c pg tb G C n → FrX X' → SO pg X' g0 H0 gb (some σ) (evSs C G W body env h) (fun D => wSs X' body' D σ H)) :
    SO pg X g0 H0 gb τ (evS C G W (.tryE body k cls i hd) env h) (fun D => wS X (.Try body' [.ExceptHandler (some (.Name x p1)) (some nm) [.Return (some e') p2] p3] [] [] p4) D σ H) := by
  rw [evS]
  obtain ⟨E, ec, em, K⟩ := gx.ct.cs k x oc
  refine SO.tryG (hd := fun e h' => match e.v with
      | none => .ok (.rt (.d (evH hd e.c))) h'
      | some _ => .no) gx hs hf st og ec em ol oN ok kb fun er h' hc D0 a oe pn dx g' H' e0 hsub er' s' p' na hz hvs => ?_
  cases ev : er.v with
  | some _ => exact trivial
  | none =>
    intro D hD
    obtain ⟨D1, e1, ed, hv⟩ := er'
    rw [ev] at hv
    subst hv
    have hh : Held pg X (X.suite a ((a, oe) :: pn)) a er.c D0 := ⟨⟨oe, pn, rfl, hz, hvs⟩, e0⟩
    intro pins s I
    have iN : i < σ.length := by
      have := I.len
      rw [List.length_set] at this
      rw [this]
      show i < X.N.length
      rw [gx.N]
      exact (List.getElem?_eq_some_iff.mp oN).1
    refine (pss_one (ps_ret (He.ok gx hh hd e' oh))).run pins s _ _ _ I ⟨by rw [List.getElem?_set_self iN], fun v r => ?_⟩
    exact hD v H' g' s' p' (Rp.mono (fun a o y => by cases y) _ _ r)
theorem SO.tryA {body : List Ts} {k i : Nat} {cls : List Nat} {body' : List Stmt} {x nm f : Str} {p1 p2 p3 p4 p5 p6 p7 : Pos} (gx : GX X c pg tb G C n) (hs : X.stack = X.env :: X.outer) (hf : X.env.frame = some X.env.locals) (st : St pg g0 H0 gb τ g H h env σ)
    (og : glB c x = true) (oc : tb.vc k = some (x, f)) (ol : cls = (List.range tb.nc).filter fun j => tb.sub j k) (oN : c.N[i]? = some nm) (ok : c.sc.names.lookup nm = some .local) (on : plainName nm = true) (o1 : ∀ j, j ∈ cls → j = k)
    (kb : ∀ (X' : Cx), GX X' c pg tb G C n → FrX X' → SO pg X' g0 H0 gb (some σ) (evSs C G W body env h) (fun D => wSs X' body' D σ H)) :
    SO pg X g0 H0 gb τ (evS C G W (.tryA body k cls i) env h) (fun D => wS X (.Try body' [.ExceptHandler (some (.Name x p1)) (some nm) [.Return (some (.List [.Attribute (.Name nm p5) f p6] p7)) p2] p3] [] [] p4) D σ H) := by
  rw [evS]
  obtain ⟨E, ec, em, ef, K⟩ := gx.ct.vs k x f oc
  refine SO.tryG (hd := fun e h' => match e.v with
      | some v => .ok (.rt (.d (.list [v]))) h'
      | none => .no) gx hs hf st og ec em ol oN ok kb fun er h' hc D0 a oe pn dx g' H' e0 hsub er' s' p' na hz hvs => ?_
  cases ev : er.v with
  | none => exact trivial
  | some d =>
    intro D hD
    have ek : er.c = k := o1 _ (by simpa using hc)
    rw [ek, ec] at e0
    cases e0
    obtain ⟨D1, e1, ed, hv⟩ := er'
    rw [ev] at hv
    obtain ⟨b, f', v, rfl, ef', hb, rv⟩ := hv
    rw [ek, ef] at ef'
    cases ef'
    obtain ⟨n1, n2⟩ := plain_dbg on
    have pv : PE (X.suite a ((a, oe) :: pn)) (.Name nm p5) (tVar i) := pe_var (by show X.N[i]? = _; rw [gx.N]; exact oN) (gx.vis (by unfold visB; rw [ok])) n1 n2
    have px := pe_xf (X := X) (pos := p6) (n := f) (by rw [gx.hK]; exact K.xf) (by rw [gx.hK]; exact K.nf) hz hvs pv (by rfl)
    have pl : PE (X.suite a ((a, oe) :: pn)) (.List [.Attribute (.Name nm p5) f p6] p7) _ := pe_lst (pa_cons px pa_nil)
    intro pins s I
    refine (pss_one (ps_ret pl)).run pins s _ _ _ I ?_
    have iN : i < σ.length := by
      have := I.len
      rw [List.length_set] at this
      rw [this]
      show i < X.N.length
      rw [gx.N]
      exact (List.getElem?_eq_some_iff.mp oN).1
    refine ⟨.ref a, by rw [List.getElem?_set_self iN], rfl, rfl, b, _, v, rfl, hb, by simp [List.lookup], ?_⟩
    refine ⟨by show 1 ≤ sizeLine; rw [sizeLine_eq]; omega, fun q nq => ?_⟩
    obtain ⟨s2, p2⟩ := s'.frozen nq (.lst [v])
    exact hD (.ref q) _ _ s2 (p'.trans p2) (by simp only [VlR, Rp]; exact ⟨q, [v], rfl, upd_same, RpL.cons (Rp.mono p2.z _ _ rv) RpL.nil⟩)
end
end Mi
/-! Mi: all statements: the recursion. -/
namespace Mi
open PySem PySem.Spec PyProof.Rows L2
section
variable {pg : Pg} {tb : Tb} {G : Nat → Option PyData} {C : Cf} {n : Nat}
theorem ton {τ : Option Sg} {s : Ts} (hτ : τ = none ∨ noAsg s = true) (hn : noAsg s = false) : τ = none := hτ.elim id fun z => by rw [hn] at z; cases z
theorem tcs {s : Ts} {ss : List Ts} (z : noAsgs (s :: ss) = true) : noAsg s = true ∧ noAsgs ss = true := by
  rw [noAsgs, Bool.and_eq_true] at z
  exact z
theorem tif {t : Te} {a b : List Ts} (z : noAsg (.iff t a b) = true) : noAsgs a = true ∧ noAsgs b = true := by
  rw [noAsg, Bool.and_eq_true] at z
  exact z
theorem okTs_cons {c : Cd} {s : Ts} {ss : List Ts} {sts : List Stmt} (hf : (∃ i, s = .freeze i) → False) (ok : okTs c tb (s :: ss) sts = true) : ∃ st r, sts = st :: r ∧ okT c tb s st = true ∧ okTs c tb ss r = true := by
  cases sts with
  | nil =>
    cases s <;> first | (exact (hf ⟨_, rfl⟩).elim) | (simp [okTs] at ok)
  | cons st r =>
    refine ⟨st, r, rfl, ?_⟩
    cases s <;> first | (exact (hf ⟨_, rfl⟩).elim) | (simpa [okTs] using ok)
mutual
theorem okT_all (W : Nat) : ∀ (s : Ts) (st' : Stmt) (X : Cx) (c : Cd) (g0 : Gh) (H0 : Hp) (gb : Gh) (τ : Option Sg) (g : Gh) (H : Hp) (h : Sh) (env : En) (σ : Sg), GX X c pg tb G C n → FrX X → (τ = none ∨ noAsg s = true) → okT c tb s st' = true → St pg g0 H0 gb τ g H h env σ → SO pg X g0 H0 gb τ (evS C G W s env h) (fun D => wS X st' D σ H)
  | .doc => by
    intro st' X c g0 H0 gb τ g H h env σ gx fx hτ ok st
    unfold okT at ok
    split at ok
    all_goals first | (cases ok; done) | (rename_i hq; cases hq; done) | skip
    rename_i hq
    cases hq
    exact SO.doc st
  | .asg tg e => by
    intro st' X c g0 H0 gb τ g H h env σ gx fx hτ ok st
    unfold okT at ok
    split at ok
    all_goals first | (cases ok; done) | (rename_i hq; cases hq; done) | skip
    · rename_i hq
      cases hq
      simp only [Bool.and_eq_true] at ok
      obtain ⟨⟨⟨o1, o2⟩, o3⟩, o4⟩ := ok
      exact SO.star (ton hτ rfl) gx st o1 o2 o3 (npk o4)
    · rename_i hq
      cases hq
      simp only [Bool.and_eq_true] at ok
      obtain ⟨⟨⟨o1, o2⟩, o3⟩, o4⟩ := ok
      exact SO.asg (ton hτ rfl) gx st o1 o2 (npk o3) o4
  | .own i l => by
    intro st' X c g0 H0 gb τ g H h env σ gx fx hτ ok st
    unfold okT at ok
    split at ok
    all_goals first | (cases ok; done) | (rename_i hq; cases hq; done) | skip
    rename_i hq
    cases hq
    simp only [Bool.and_eq_true] at ok
    obtain ⟨⟨o1, o2⟩, o3⟩ := ok
    exact SO.own (ton hτ rfl) gx st o1 o2 o3
  | .par is es => by
    intro st' X c g0 H0 gb τ g H h env σ gx fx hτ ok st
    unfold okT at ok
    split at ok
    all_goals first | (cases ok; done) | (rename_i hq; cases hq; done) | skip
    rename_i hq
    cases hq
    simp only [Bool.and_eq_true] at ok
    obtain ⟨o1, o2⟩ := ok
    exact SO.par (ton hτ rfl) gx st o1 o2
  | .aug i op e => by
    intro st' X c g0 H0 gb τ g H h env σ gx fx hτ ok st
    unfold okT at ok
    split at ok
    all_goals first | (cases ok; done) | (rename_i hq; cases hq; done) | skip
    rename_i hq
    cases hq
    simp only [Bool.and_eq_true] at ok
    obtain ⟨⟨⟨⟨o1, o2⟩, o3⟩, o4⟩, o5⟩ := ok
    have o2 := of_decide_eq_true o2
    subst o2
    have o3 : op = .Add ∨ op = .Sub := by
      rw [Bool.or_eq_true] at o3
      exact o3.imp of_decide_eq_true of_decide_eq_true
    exact SO.aug (ton hτ rfl) gx st o1 o3 o4 (npk o5)
  | .setix r i e => by
    intro st' X c g0 H0 gb τ g H h env σ gx fx hτ ok st
    unfold okT at ok
    split at ok
    all_goals first | (cases ok; done) | (rename_i hq; cases hq; done) | skip
    rename_i hq
    cases hq
    simp only [Bool.and_eq_true] at ok
    obtain ⟨⟨⟨⟨⟨⟨⟨o1, o2⟩, o3⟩, o4⟩, o5⟩, o6⟩, o7⟩, o8⟩ := ok
    exact SO.setix gx st o1 o2 o3 o4 o5 (npk o6) (npk o7) (npk o8)
  | .ownix s i e => by
    intro st' X c g0 H0 gb τ g H h env σ gx fx hτ ok st
    unfold okT at ok
    split at ok
    all_goals first | (cases ok; done) | (rename_i hq; cases hq; done) | skip
    rename_i hq
    cases hq
    simp only [Bool.and_eq_true] at ok
    obtain ⟨⟨⟨⟨⟨⟨o1, o2⟩, o3⟩, o4⟩, o5⟩, o6⟩, o7⟩ := ok
    exact SO.ownix gx st o1 o2 o3 o4 o5 (npk o6) (npk o7)
  | .app s e => by
    intro st' X c g0 H0 gb τ g H h env σ gx fx hτ ok st
    unfold okT at ok
    split at ok
    all_goals first | (cases ok; done) | (rename_i hq; cases hq; done) | skip
    rename_i hq
    cases hq
    simp only [Bool.and_eq_true] at ok
    obtain ⟨⟨⟨⟨⟨o1, o2⟩, o3⟩, o4⟩, o5⟩, o6⟩ := ok
    exact SO.app gx st (of_decide_eq_true o1) o2 o3 (npk o4) o5 o6
  | .ext s e => by
    intro st' X c g0 H0 gb τ g H h env σ gx fx hτ ok st
    unfold okT at ok
    split at ok
    all_goals first | (cases ok; done) | (rename_i hq; cases hq; done) | skip
    rename_i hq
    cases hq
    simp only [Bool.and_eq_true] at ok
    obtain ⟨⟨⟨⟨o1, o2⟩, o3⟩, o5⟩, o6⟩ := ok
    exact SO.ext gx st (of_decide_eq_true o1) o2 o3 o5 o6
  | .expr e => by
    intro st' X c g0 H0 gb τ g H h env σ gx fx hτ ok st
    unfold okT at ok
    split at ok
    all_goals first | (cases ok; done) | (rename_i hq; cases hq; done) | skip
    rename_i hq
    cases hq
    simp only [Bool.and_eq_true] at ok
    obtain ⟨o1, o2⟩ := ok
    exact SO.expr gx st o1 o2
  | .ret e => by
    intro st' X c g0 H0 gb τ g H h env σ gx fx hτ ok st
    unfold okT at ok
    split at ok
    all_goals first | (cases ok; done) | (rename_i hq; cases hq; done) | skip
    rename_i hq
    cases hq
    simp only [Bool.and_eq_true] at ok
    obtain ⟨o1, o2⟩ := ok
    exact SO.ret gx st o1 (npk o2)
  | .retN => by
    intro st' X c g0 H0 gb τ g H h env σ gx fx hτ ok st
    unfold okT at ok
    split at ok
    all_goals first | (cases ok; done) | (rename_i hq; cases hq; done) | skip
    rename_i hq
    cases hq
    exact SO.retN st
  | .iff t a b => by
    intro st' X c g0 H0 gb τ g H h env σ gx fx hτ ok st
    unfold okT at ok
    split at ok
    all_goals first | (cases ok; done) | (rename_i hq; cases hq; done) | skip
    rename_i hq
    cases hq
    simp only [Bool.and_eq_true] at ok
    obtain ⟨⟨o1, o2⟩, o3⟩ := ok
    exact SO.iff gx st o1 (fun h1 H1 g1 st1 => okTs_all W a _ X c g0 H0 gb τ g1 H1 h1 env σ gx fx (hτ.imp id fun z => (tif z).1) o2 st1) (fun h1 H1 g1 st1 => okTs_all W b _ X c g0 H0 gb τ g1 H1 h1 env σ gx fx (hτ.imp id fun z => (tif z).2) o3 st1)
  | .for tg k es body => by
    intro st' X c g0 H0 gb τ g H h env σ gx fx hτ ok st
    unfold okT at ok
    split at ok
    all_goals first | (cases ok; done) | (rename_i hq; cases hq; done) | skip
    rename_i hq
    cases hq
    simp only [Bool.and_eq_true] at ok
    obtain ⟨⟨o1, o2⟩, o3⟩ := ok
    exact SO.for (ton hτ rfl) gx st o1 o2 (fun h1 H1 gb1 g1 env1 σ1 st1 => okTs_all W body _ X c g0 H0 gb1 τ g1 H1 h1 env1 σ1 gx fx (.inl (ton hτ rfl)) o3 st1)
  | .while t body => by
    intro st' X c g0 H0 gb τ g H h env σ gx fx hτ ok st
    unfold okT at ok
    split at ok
    all_goals first | (cases ok; done) | (rename_i hq; cases hq; done) | skip
    rename_i hq
    cases hq
    simp only [Bool.and_eq_true] at ok
    obtain ⟨o1, o2⟩ := ok
    exact SO.while gx st o1 (fun h1 H1 gb1 g1 env1 σ1 st1 => okTs_all W body _ X c g0 H0 gb1 τ g1 H1 h1 env1 σ1 gx fx (.inl (ton hτ rfl)) o2 st1)
  | .brk => by
    intro st' X c g0 H0 gb τ g H h env σ gx fx hτ ok st
    unfold okT at ok
    split at ok
    all_goals first | (cases ok; done) | (rename_i hq; cases hq; done) | skip
    rename_i hq
    cases hq
    rw [evS]
    exact fun D hD => wS_of ps_break (hD σ H g st)
  | .cont => by
    intro st' X c g0 H0 gb τ g H h env σ gx fx hτ ok st
    unfold okT at ok
    split at ok
    all_goals first | (cases ok; done) | (rename_i hq; cases hq; done) | skip
    rename_i hq
    cases hq
    rw [evS]
    exact fun D hD => wS_of ps_continue (hD σ H g st)
  | .pass => by
    intro st' X c g0 H0 gb τ g H h env σ gx fx hτ ok st
    unfold okT at ok
    split at ok
    all_goals first | (cases ok; done) | (rename_i hq; cases hq; done) | skip
    rename_i hq
    cases hq
    rw [evS]
    exact fun D hD => wS_of ps_pass (hD σ H g st)
  | .raiseV k e => by
    intro st' X c g0 H0 gb τ g H h env σ gx fx hτ ok st
    unfold okT at ok
    split at ok
    all_goals first | (cases ok; done) | (rename_i hq; cases hq; done) | skip
    rename_i hq
    cases hq
    simp only [Bool.and_eq_true] at ok
    obtain ⟨⟨⟨⟨o1, o2⟩, o3⟩, o4⟩, o5⟩ := ok
    split at o2
    · rename_i y f ev
      have o2 := of_decide_eq_true o2
      subst o2
      exact SO.raiseV gx st o1 ev o3 o4 (npk o5)
    · cases o2
  | .tryA body k cls i => by
    intro st' X c g0 H0 gb τ g H h env σ gx fx hτ ok st
    unfold okT at ok
    split at ok
    all_goals first | (cases ok; done) | (rename_i hq; cases hq; done) | skip
    rename_i hq
    cases hq
    simp only [Bool.and_eq_true] at ok
    obtain ⟨⟨⟨⟨⟨⟨⟨⟨⟨o1, o2⟩, o3⟩, o4⟩, o5⟩, o6⟩, o7⟩, o8⟩, o9⟩, o10⟩ := ok
    have o9 := of_decide_eq_true o9
    subst o9
    have o6 := of_decide_eq_true o6
    exact SO.tryA gx fx.hs fx.hf st o3 (of_decide_eq_true o4) (of_decide_eq_true o5) (of_decide_eq_true o7) (of_decide_eq_true o8) o10 (fun j m => by rw [o6] at m; simpa using m) (fun X1 gx1 fx1 => okTs_all W body _ X1 c g0 H0 gb (some σ) g H h env σ gx1 fx1 (.inr o2) o1 (st.tau fun s e => by cases e; rfl))
  | .asgl i l => by
    intro st' X c g0 H0 gb τ g H h env σ gx fx hτ ok st
    unfold okT at ok
    split at ok
    all_goals first | (cases ok; done) | (rename_i hq; cases hq; done) | skip
    rename_i hq
    cases hq
    simp only [Bool.and_eq_true] at ok
    obtain ⟨⟨o1, o2⟩, o3⟩ := ok
    exact SO.asgl (ton hτ rfl) gx st o1 o2 o3
  | .augr r i k => by
    intro st' X c g0 H0 gb τ g H h env σ gx fx hτ ok st
    unfold okT at ok
    split at ok
    all_goals first | (cases ok; done) | (rename_i hq; cases hq; done) | skip
    rename_i hq
    cases hq
    simp only [Bool.and_eq_true] at ok
    obtain ⟨⟨⟨⟨⟨o1, o2⟩, o3⟩, o4⟩, o5⟩, o6⟩ := ok
    have o6 := of_decide_eq_true o6
    subst o6
    exact SO.augr gx st o1 o2 o3 (npk o4) (npk o5)
  | .stop => by
    intro st' X c g0 H0 gb τ g H h env σ gx fx hτ ok st
    rw [evS]
    exact trivial
  | .augix s i k => by
    intro st' X c g0 H0 gb τ g H h env σ gx fx hτ ok st
    unfold okT at ok
    split at ok
    all_goals first | (cases ok; done) | (rename_i hq; cases hq; done) | skip
    rename_i hq
    cases hq
    simp only [Bool.and_eq_true] at ok
    obtain ⟨⟨⟨⟨o1, o2⟩, o3⟩, o4⟩, o5⟩ := ok
    have o5 := of_decide_eq_true o5
    subst o5
    exact SO.augix gx st o1 o2 o3 (npk o4)
  | .raise k => by
    intro st' X c g0 H0 gb τ g H h env σ gx fx hτ ok st
    unfold okT at ok
    split at ok
    all_goals first | (cases ok; done) | (rename_i hq; cases hq; done) | skip
    rename_i hq
    cases hq
    simp only [Bool.and_eq_true] at ok
    obtain ⟨o1, o2⟩ := ok
    exact SO.raise gx st o1 (of_decide_eq_true o2)
  | .tryE body k cls i hd => by
    intro st' X c g0 H0 gb τ g H h env σ gx fx hτ ok st
    unfold okT at ok
    split at ok
    all_goals first | (cases ok; done) | (rename_i hq; cases hq; done) | skip
    rename_i hq
    cases hq
    simp only [Bool.and_eq_true] at ok
    obtain ⟨⟨⟨⟨⟨⟨⟨o1, o2⟩, o3⟩, o4⟩, o5⟩, o6⟩, o7⟩, o8⟩ := ok
    exact SO.tryE gx fx.hs fx.hf st o3 (of_decide_eq_true o4) (of_decide_eq_true o5) (of_decide_eq_true o6) (of_decide_eq_true o7) o8 (fun X1 gx1 fx1 => okTs_all W body _ X1 c g0 H0 gb (some σ) g H h env σ gx1 fx1 (.inr o2) o1 (st.tau fun s e => by cases e; rfl))
  | .freeze i => by
    intro st' X c g0 H0 gb τ g H h env σ gx fx hτ ok st
    cases st' <;> cases ok
theorem okTs_all (W : Nat) : ∀ (ss : List Ts) (sts : List Stmt) (X : Cx) (c : Cd) (g0 : Gh) (H0 : Hp) (gb : Gh) (τ : Option Sg) (g : Gh) (H : Hp) (h : Sh) (env : En) (σ : Sg), GX X c pg tb G C n → FrX X → (τ = none ∨ noAsgs ss = true) → okTs c tb ss sts = true → St pg g0 H0 gb τ g H h env σ → SO pg X g0 H0 gb τ (evSs C G W ss env h) (fun D => wSs X sts D σ H)
  | [], sts, X, c, g0, H0, gb, τ, g, H, h, env, σ, gx, fx, hτ, ok, st => by
    cases sts with
    | cons _ _ => simp [okTs] at ok
    | nil =>
      rw [evSs]
      exact SO.nx st fun D hd => wSs_of pss_nil hd
  | s :: ss, sts, X, c, g0, H0, gb, τ, g, H, h, env, σ, gx, fx, hτ, ok, st => by
    rw [evSs]
    by_cases hf : ∃ i, s = .freeze i
    · obtain ⟨i, rfl⟩ := hf
      have ok : okTs c tb ss sts = true := by
        cases sts <;> simpa [okTs] using ok
      rw [evS]
      split
      · rename_i xs eo
        obtain ⟨g', st'⟩ := st.freeze eo
        exact okTs_all W ss sts X c g0 H0 gb τ g' H h _ σ gx fx (hτ.imp id fun z => (tcs z).2) ok st'
      · exact trivial
    · obtain ⟨st1, r, rfl, o1, o2⟩ := okTs_cons hf ok
      exact SO.cons (okT_all W s st1 X c g0 H0 gb τ g H h env σ gx fx (hτ.imp id fun z => (tcs z).1) o1 st) fun env' h' σ' H' g' _ st' => okTs_all W ss r X c g0 H0 gb τ g' H' h' env' σ' gx fx (hτ.imp id fun z => (tcs z).2) o2 st'
end
end
end Mi
/-! Mi: defs; the law's call. -/
namespace Mi
open PySem PySem.Spec PyProof.Rows L2

structure DefOk (tb : Tb) (st : Stmt) (F : Fd) (N ps : List Str) : Prop where
  sc : FnScope N ps (defScope st)
  n : F.n = N.length
  p : F.ps = ps.length
  body : okTs ⟨N, defScope st, fun _ => true⟩ tb F.body (defBody st) = true
/-- a def as it stands, with defaults or without -/
structure FnD (K : PySem.W.Frag) (x : Str) (st : Stmt) (f : Addr) (fd : FuncData) : Prop where
  ex : ∃ (oc : Value) (od : Option Addr) (dV kV doc pm : Value) (an : Option Addr) (cdv ct : Value) (osl : Array (Option Value)),
    fd = PySem.W.fnOf x x (defArgs st) (defBody st) (defScope st) dV kV doc pm an cdv ct ∧ K.lookup f = some ⟨oc, od, .func fd, osl⟩ ∧ PySem.W.codeIn K cdv x = true
  kp : PySem.W.keepIn K (.ref f) = true
structure FnK (pg : Pg) (tb : Tb) (Φ : Nat → Option Fd) (i : Nat) (x : Str) (f : Addr) (fd : FuncData) (ps : List Str) : Prop where
  ex : ∃ F st N y, Φ i = some F ∧ DefOk tb st F N ps ∧ FnD pg.K y st f fd ∧ Binds pg.K fd ps [] ∧ ∃ us0 vs0, Binds pg.K fd ps us0 ∧ Vals vs0 us0 ∧ RpL pg.K (fun _ => none) F.df vs0
structure PrOk (pg : Pg) (tb : Tb) (Φ : Nat → Option Fd) (G : Nat → Option PyData) (pz : Nat → List Str) : Prop where
  fn : ∀ i x, tb.fn i = some x → ∃ f fd ps, pg.mg x = some (.ref f) ∧ FnK pg tb Φ i x f fd ps ∧ ps = pz i
  gl : ∀ i x, tb.gl i = some x → ∀ d, G i = some d → ∃ u v, pg.mg x = some u ∧ RelV v u ∧ Rp pg.K (fun _ => none) d v
  bt : ∀ x ∈ bNames, pg.mg x = none
  ct : ClsT pg tb

theorem VlRL.length {K : PySem.W.Frag} {g : Gh} : ∀ {xs : List Vl} {vs : List V}, VlRL K g xs vs → vs.length = xs.length
  | [], _, r => by
    have r : _ = [] := r
    rw [r]; rfl
  | x :: xs, _, ⟨v, t, e, _, r⟩ => by rw [e, List.length_cons, List.length_cons, VlRL.length r]
theorem VlRL.get {K : PySem.W.Frag} {g : Gh} : ∀ {xs : List Vl} {vs : List V} {i : Nat} {x : Vl}, VlRL K g xs vs → xs[i]? = some x → ∃ v, vs[i]? = some v ∧ VlR K g x v
  | [], _, _, _, _, e => by simp at e
  | y :: ys, _, 0, x, ⟨v, t, e1, r1, r2⟩, e => by
    simp at e
    subst e e1
    exact ⟨v, rfl, r1⟩
  | y :: ys, _, i + 1, x, ⟨v, t, e1, r1, r2⟩, e => by
    subst e1
    obtain ⟨u, q1, q2⟩ := VlRL.get (i := i) r2 (by simpa using e)
    exact ⟨u, by simpa using q1, q2⟩
theorem EnR.start {K : PySem.W.Frag} {g : Gh} {H : Hp} {n : Nat} {N : List Str} {xs : List Vl} {vs : List V} (hn : n = N.length) (r : VlRL K g xs vs) : EnR K g H (startE n xs) (L2.start N vs) := by
  have hl := r.length
  have no : ∀ {i : Nat} {ys : List PyData}, (startE n xs)[i]? ≠ some (.own ys) := fun {i ys} e => by
    unfold startE at e
    by_cases hi : i < xs.length
    · rw [List.getElem?_append_left (by simpa using hi), List.getElem?_map] at e
      cases q : xs[i]? with
      | none => rw [q] at e; cases e
      | some z => rw [q] at e; cases e
    · rw [List.getElem?_append_right (by simpa using hi), List.getElem?_replicate] at e
      split at e <;> cases e
  refine ⟨by unfold startE L2.start; simp [hl, hn], fun i s e => ?_, fun i j ys zs a e1 => (no e1).elim⟩
  unfold startE at e
  unfold L2.start
  by_cases hi : i < xs.length
  · rw [List.getElem?_append_left (by simpa using hi), List.getElem?_map] at e
    rw [List.getElem?_append_left (by simpa [hl] using hi), List.getElem?_map]
    cases q : xs[i]? with
    | none => rw [q] at e; cases e
    | some z =>
      rw [q] at e; cases e
      obtain ⟨v, q1, q2⟩ := r.get q
      rw [q1]
      exact ⟨_, rfl, v, rfl, q2⟩
  · rw [List.getElem?_append_right (by simpa using hi), List.getElem?_replicate] at e
    rw [List.getElem?_append_right (by simpa [hl] using hi), List.getElem?_replicate]
    split at e
    · rename_i hk
      cases e
      rw [if_pos (by simp [hl] at hk ⊢; omega)]
      exact ⟨_, rfl, trivial⟩
    · cases e
theorem St.start {pg : Pg} {g : Gh} {H : Hp} {h : Sh} {n : Nat} {N : List Str} {xs : List Vl} {vs : List V} (s : Sim pg.K g h H) (hn : n = N.length) (r : VlRL pg.K g xs vs) : St pg g H g none g H h (startE n xs) (L2.start N vs) := by
  refine ⟨s, ⟨Pres.refl, fun _ _ e => e⟩, EnR.start hn r, fun i ys a e => ?_, fun _ e => nomatch e⟩
  exfalso
  unfold startE at e
  by_cases hi : i < xs.length
  · rw [List.getElem?_append_left (by simpa using hi), List.getElem?_map] at e
    cases q : xs[i]? with
    | none => rw [q] at e; cases e
    | some z => rw [q] at e; cases e
  · rw [List.getElem?_append_right (by simpa using hi), List.getElem?_replicate] at e
    split at e <;> cases e

section
variable {pg : Pg} {tb : Tb} {Φ : Nat → Option Fd} {G : Nat → Option PyData} {W : Nat}
theorem callF_len {k i : Nat} {xs : List Vl} {h : Sh} {F : Fd} (e : Φ i = some F) (q : callF Φ G W k i xs h ≠ .no) : xs.length = F.ps ∨ (xs.length + F.df.length = F.ps ∧ callF Φ G W k i xs h = callF Φ G W k i (xs ++ F.df.map .d) h) := by
  cases k with
  | zero => exact (q rfl).elim
  | succ k =>
    rw [callF, e] at q
    dsimp only at q
    by_cases c1 : xs.length = F.ps
    · exact .inl c1
    · rw [if_neg c1] at q
      by_cases c2 : xs.length + F.df.length = F.ps
      · refine .inr ⟨c2, ?_⟩
        rw [callF, callF, e]
        dsimp only
        rw [if_neg c1, if_pos c2, if_pos (by rw [List.length_append, List.length_map]; exact c2)]
      · rw [if_neg c2] at q
        exact (q rfl).elim
theorem fnG_all {pz : Nat → List Str} (P : PrOk pg tb Φ G pz) : ∀ (k i : Nat) (x : Str) (f : Addr) (fd : FuncData) (ps : List Str), FnK pg tb Φ i x f fd ps → FnG pg k f fd ps (callF Φ G W k i)
  | 0, i, x, f, fd, ps, K => ⟨fun A outer s H args us vs xs h g Q E hr hg e0 hb rv hl sm r q => (show False from q).elim⟩
  | k + 1, i, x, f, fd, ps, K => by
    obtain ⟨F, st, N, nm, eF, D, Fu, bd, _⟩ := K.ex
    refine ⟨fun A outer s H args us vs xs h g Q E hr hg e0 hb rv hl sm r q => ?_⟩
    obtain ⟨oc, od, dV, kV, doc, pm, an, cdv, ct, osl, rfl, lk, hcd⟩ := Fu.ex
    have S := D.sc
    have KX : pg.K.In s.heap := e0.mod.kin.keeps fun b o e => (e0.bs b o e).1
    have lim : s.heap.NoLimit := e0.mod.nolimit.keeps fun b o e => (e0.bs b o e).1
    have hkind : ∀ y ∈ ps.zip us, (defScope st).names.lookup y.1 = some .local ∨ ((defScope st).names.lookup y.1 = some .cell ∧ ((cellsFrom (s.heap.objs.size + 1) (defScope st).names []).lookup y.1).isSome = true) := fun y hy =>
      (S.par y.1 (List.of_mem_zip (a := y.1) (b := y.2) hy).1).imp id fun q => ⟨q, PySem.W.cellsFrom_some _ _ _ (.inl q)⟩
    refine codeAny_call_function hr.depth (KX _ _ lk) rfl S.co S.gen rfl (PySem.W.codeRec_of KX hcd) (hb _ _ _ _ ?_)
    refine wpAny_newFunctionEnv_cells S.kind hkind fun env he s1 hx => ?_
    subst he
    refine ⟨lim.keeps hx.toInCall.keep, codeAny_func ?_⟩
    have I := inv_start (CX := L2.CX pg.P pg.w) (qual := nm) (E := E) S hr.hd e0 hl rv hx
    have gx : GX (cxOf (L2.CX pg.P pg.w) pg.P pg.w pg.K pg.mg pg.base N nm (defScope st) f cdv A outer s H E) ⟨N, defScope st, fun _ => true⟩ pg tb G (callF Φ G W k) k :=
      ⟨rfl, rfl, rfl, rfl, rfl, rfl, S.nd, rfl, S.kind, rfl, rfl, passes_of rfl, hr.deeper _, hg, P.gl, P.bt, P.ct, fun j y ej => by
        obtain ⟨f', fd', ps', em, K', _⟩ := P.fn j y ej
        obtain ⟨F', st', N', nm', eF', D', Fu', bd', us0, vs0, b0, r0, rd0⟩ := K'.ex
        exact ⟨f', fd', ps', F'.df, us0, vs0, em, Fu'.kp, bd', fnG_all P k j y f' fd' ps' K', b0, r0, rd0, fun xs h hn => by rw [← D'.p]; exact callF_len eF' hn⟩⟩
    have so := okTs_all W F.body (defBody st) _ _ g H g none g H h (startE F.n xs) (L2.start N vs) gx ⟨rfl, rfl⟩ (.inl rfl) D.body (St.start sm D.n r)
    have hps : xs.length = F.ps := by rw [D.p, ← hl, r.length]
    have eC : callF Φ G W (k + 1) i xs h = (evSs (callF Φ G W k) G W F.body (startE F.n xs) h).bind fun o h1 => match o with
        | .rt v => .ok v h1
        | .nx _ => .ok (.d .none) h1
        | _ => .no := by
      rw [callF, eF]
      dsimp only
      rw [if_pos hps]
      all_goals rfl
    rw [eC] at q
    have D0 : Ends := { nx := fun _ H' => Q .non H', rt := Q }
    have main : wSs (cxOf (L2.CX pg.P pg.w) pg.P pg.w pg.K pg.mg pg.base N nm (defScope st) f cdv A outer s H E) (defBody st) { nx := fun _ H' => Q .non H', rt := Q } (L2.start N vs) H := by
      cases hr2 : evSs (callF Φ G W k) G W F.body (startE F.n xs) h with
      | no => rw [hr2] at q; exact (show False from q).elim
      | ex e h' =>
        rw [hr2] at q so
        exact so (fun cls d _ H' => E cls d H') (takes_of rfl rfl rfl rfl) (fun cls dx σ' H' g' s' p' er => q cls dx H' g' s' p'.pz.pre er) _
      | ok o h' =>
        rw [hr2] at q so
        cases o with
        | rt v => exact so _ fun v' H' g' s' p' rv' => q v' H' g' s' p'.pre rv'
        | nx e => exact so _ fun σ' H' g' st' => q .non H' g' st'.sim st'.pre (by simp only [VlR, Rp])
        | bk e => exact (show False from q).elim
        | ct e => exact (show False from q).elim
    refine wpAny_mono (main [] s1 I) (fun fl s' hs => ?_) fun e s' hs => hs
    cases fl with
    | ret u =>
      obtain ⟨v, σ', H', J, rv', q'⟩ := hs
      exact ⟨v, H', J.os, J.bare, J.base, J.hok, rv', q'⟩
    | next =>
      obtain ⟨σ', H', J, q'⟩ := hs
      exact ⟨.non, H', J.os, J.bare, J.base, J.hok, rfl, q'⟩
    | brk => exact (hs.choose_spec.choose_spec.2 : False).elim
    | cont => exact (hs.choose_spec.choose_spec.2 : False).elim
end
end Mi
/-! Mi: the law's call. -/
namespace Mi
open PySem PySem.Spec PyProof.Rows L2

/-- the heap in which the script alone is told, or nothing -/
def scrH (a : Addr) (u : Option HO) : Hp := fun b => if b = a then u else none
theorem scrH_at {a : Addr} {u : Option HO} : scrH a u a = u := if_pos rfl
theorem scrH_ne {a b : Addr} {u : Option HO} (h : b ≠ a) : scrH a u b = none := if_neg h
theorem nomem {b : Addr} (m : b ∈ ([] : List Addr)) : False := by cases m
theorem law_go {pg : Pg} {mb : Str → Option Value} {k : Nat} {fa a : Addr} {fd : FuncData} {x : Str} {F : List Vl → Sh → R Vl} {s₁ : Shared} {vs : List Value} {ns : List Int} {u : Option HO} {hq : Sh}
    (KX : pg.K.In s₁.heap) (hns : s₁.heap.Ns mainGlobals pg.mg) (hb : s₁.heap.Ns builtinsNs mb) (hbb : ∀ x : Str, x ≠ "__name__" → mb x = bootBuiltins x) (hlim : s₁.heap.NoLimit) (hg : s₁.gens = #[])
    (ha : s₁.heap.get? a = some { cls := .type "list", data := .seq vs.toArray }) (hr : Room (k + 2) callerA) (hba : pg.base = hidT s₁.heap (scrH a u)) (hbind : BindsTo s₁ fd ⟨[.ref a], []⟩ [(x, .ref a)])
    (hu : u = none ∨ (u = some (.frz { cls := .type "list", data := .seq vs.toArray } (.lst (ns.map V.int))) ∧ pg.K.lookup a = none)) (hS : SqL pg.K (scrH a u) a (ns.map V.int)) (hok : HOk pg.P pg.w (scrH a u) s₁.heap)
    (P : pg.K.In (hidT s₁.heap (scrH a u)) → FnG pg k fa fd [x] F) (hF : F [.scr ns] [] = .ok (.d (.bool true)) hq) :
    codeAny (model pg.P pg.w) callerA (.call (.ref fa) ⟨[.ref a], []⟩) (fun r s' => r = .ok (.ret (.bool true)) ∧ OldK s₁.heap s'.heap ∧ s'.os = s₁.os ∧ AllBare s'.gens) s₁ := by
  have free : ∀ b, b ≠ a → scrH a u b = none := fun b => scrH_ne
  have isA : ∀ {b : Addr} {z : HO}, scrH a u b = some z → b = a := fun {b z} e => by
    by_cases h : b = a
    · exact h
    · rw [scrH_ne h] at e; cases e
  have ns_free : ∀ {b : Addr} {o : Obj} {es : Array DictEntry} {ep : Nat}, s₁.heap.get? b = some o → o.data = .dict es ep → scrH a u b = none := fun {b o es ep} e d => by
    by_cases h : b = a
    · subst h
      rw [ha] at e; cases e; cases d
    · exact free b h
  have nsK : ∀ {b : Addr} {m : Str → Option Value}, s₁.heap.Ns b m → (hidT s₁.heap (scrH a u)).Ns b m := fun ⟨o, es, ep, e, d, r⟩ => ⟨o, es, ep, hidT_get e (ns_free e d), d, r⟩
  have kIn : pg.K.In (hidT s₁.heap (scrH a u)) := fun b o e => hidT_get (KX b o e) (by
    by_cases h : b = a
    · subst h
      rcases hu with hu | ⟨_, hk⟩
      · rw [scrH_at, hu]
      · rw [hk] at e; cases e
    · exact free b h)
  have e0 : Env0 pg.P pg.w pg.K pg.mg pg.base callerA [] s₁ (scrH a u) := by
    rw [hba]
    exact ⟨rfl, ⟨kIn, nsK hns, ⟨mb, nsK hb, hbb⟩, hlim.elim fun mc q => ⟨mc, nsK q.1, q.2⟩⟩, fun b o e => of_hidT e, Nat.le_of_eq (hidT_size _ _), trivial, fun b m => (nomem m).elim, hok, .of_eq hg⟩
  have sm : Sim pg.K ⟨scrH a u, []⟩ [] (scrH a u) := ⟨fun _ _ e => e, List.nodup_nil, rfl, fun _ m => (nomem m).elim, fun _ _ e => (show False by simp at e).elim⟩
  refine codeAny_mono ((P kIn).run callerA [] s₁ (scrH a u) ⟨[.ref a], []⟩ [.ref a] [.ref a] [.scr ns] [] ⟨scrH a u, []⟩ (fun v H' => v = .bl true ∧ ∀ z, u = some z → H' a = some z) (fun _ _ _ => False) hr rfl e0 hbind (.cons rfl .nil) rfl sm ⟨.ref a, [], rfl, ⟨a, rfl, hS⟩, rfl⟩ ?_) fun r s' hz => ?_
  · rw [hF]
    refine fun v H' g' s' p' r' => ⟨by simpa only [VlR, Rp] using r', fun z e => s'.sub _ _ (p'.z _ _ ?_)⟩
    show scrH a u a = some z
    rw [scrH_at]; exact e
  · cases r with
    | error e => exact (noCX hz).elim
    | ok fl =>
      cases fl with
      | ret w =>
        obtain ⟨v, H', os, bare, un, hok', rv, rfl, hA⟩ := hz
        obtain rfl : w = Value.bool true := rv
        refine ⟨rfl, OldK.of_keep fun b o e => ?_, os, bare⟩
        by_cases h : b = a
        · subst h
          rcases hu with hu | ⟨hu, _⟩
          · exact un.keep b o e (by rw [scrH_at, hu]) (fun m => nomem m) (fun m => nomem m)
          · obtain ⟨q, _⟩ := hok' b _ (hA _ hu)
            rw [ha] at e; cases e
            exact q
        · exact un.keep b o e (free b h) (fun m => nomem m) (fun m => nomem m)
      | next => exact (show False from hz).elim
      | brk => exact (show False from hz).elim
      | cont => exact (show False from hz).elim
/-- the end over k_head: F gives the written part, the function object, the reader's program -/
theorem walk_me {l : PySem.W.OpenLaw} {n k i : Nat} {q : Program} {loose : List Str} {XP : (Str → Option Value) → Heap → Prop} {YP : World → Heap → Prop} {d : DefRec} {x : Str} {fld : Nat → Option Str}
    {tb : Tb} {Φ : Nat → Option Fd} {G : Nat → Option PyData} {W : Nat} {pz : Nat → List Str} (hn : l.most = some n) (hn2 : n ≤ sizeLine) (hdf : d.params.defaults = []) (hr : Room (k + 2) callerA) (hi : tb.fn i = some d.name)
    (F : ∀ (w : World) (mg : Str → Option Value) (h : Heap), YP w h → h.Ns mainGlobals mg → ∃ (K : PySem.W.Frag) (cl : Nat → Option Addr), K.In h ∧ ∀ base : Heap, K.In base → PrOk ⟨l.prog, w, K, mg, base, cl, fld⟩ tb Φ G pz)
    (hx : pz i = [x])
    (law : ∀ ns : List Int, ns.length ≤ n → ∃ hq, callF Φ G W k i [.scr ns] [] = .ok (.d (.bool true)) hq) : PySem.W.WalkO q loose XP YP l.row.toRowW d [] (fun f vs => PySem.call f vs) := by
  refine Att.attach_call hn hdf fun w s₀ s₁ mg mb fa o pm cd doc a vs ns Gr Y ho hd hcd hmg hobj hints hlen hg => ?_
  obtain ⟨K, cl, KX, hP⟩ := F w mg _ Y Gr.T.g
  obtain ⟨hq, hlaw⟩ := law ns hlen
  have rv := vals_ints hints
  have lenV := hints.length
  have go : ∀ (u : Option HO), (u = none ∨ (u = some (.frz { cls := .type "list", data := .seq vs.toArray } (.lst (ns.map V.int))) ∧ K.lookup a = none)) → SqL K (scrH a u) a (ns.map V.int) → HOk l.prog w (scrH a u) s₁.heap →
      codeAny (model l.prog w) callerA (.call (.ref fa) ⟨[.ref a], []⟩) (fun r s' => r = .ok (.ret (.bool true)) ∧ OldK s₁.heap s'.heap ∧ s'.os = s₁.os ∧ AllBare s'.gens) s₁ := fun u hu hS hok => by
    have kb : K.In (hidT s₁.heap (scrH a u)) := fun b o e => hidT_get (KX b o e) (by
      by_cases h : b = a
      · subst h
        rcases hu with hu | ⟨_, hk⟩
        · rw [scrH_at, hu]
        · rw [hk] at e; cases e
      · exact scrH_ne h)
    have P := hP (hidT s₁.heap (scrH a u)) kb
    obtain ⟨f, fd, ps, em, fk, eps⟩ := P.fn i d.name hi
    have em' : mg d.name = some (.ref f) := em
    rw [hmg] at em'
    cases em'
    rw [hx] at eps
    subst eps
    have bd := fk.ex.choose_spec.choose_spec.choose_spec.choose_spec.2.2.2.1
    exact law_go (pg := ⟨l.prog, w, K, mg, hidT s₁.heap (scrH a u), cl, fld⟩) (mb := mb) (k := k) (x := x) (F := callF Φ G W k i) KX Gr.T.g Gr.T.b Gr.T.builtins Gr.T.nolimit hg hobj hr rfl (by simpa using bd s₁ [.ref a] KX rfl) hu hS hok (fun _ => fnG_all P k i d.name fa fd [x] fk) hlaw
  have sz : ns.length ≤ sizeLine := Nat.le_trans hlen hn2
  cases hk : K.lookup a with
  | some o =>
    have e := KX a o hk
    rw [hobj] at e
    cases e
    refine go none (.inl rfl) (.inr ⟨_, vs.toArray, _, hk, rfl, rfl, rfl, by rw [List.size_toArray, lenV]; exact sz, by simpa using rv⟩) fun b z e => ?_
    unfold scrH at e
    split at e <;> cases e
  | none =>
    refine go _ (.inr ⟨rfl, hk⟩) (.inl (.inr ⟨_, scrH_at⟩)) fun b z e => ?_
    by_cases h : b = a
    · subst h
      rw [scrH_at] at e
      cases e
      exact ⟨hobj, by rw [List.length_map]; exact sz, vs, _, rv, hobj⟩
    · rw [scrH_ne h] at e; cases e
end Mi
/-! Mi: own classes of errors over KeyError. -/
namespace Mi
open PySem PySem.Spec PySem.HandSPX Builtin
def bmKey : List Value := [.type "KeyError", .type "LookupError", .type "Exception", .type "BaseException", .type "object"]
section
variable {M : Model} {A : Around} {E : Value → Shared → Prop} {h : Heap} {g : Array GenState} {d : Drawn} {t : Nat} {os : OsState}
variable {nm q : Str} {C N : Addr} {bs : List Value} {hdct : Bool} {sn : List Str} {sub : List Value} {ab : Bool} {col : Option Bool} {dd : Option Addr} {k0 k1 k2 k3 k5 : Option Value}
theorem skip_ref {T : String} {b : Bool} (hb : bmKey.contains (.type T) = b) : (Value.ref C :: bmKey).contains (.type T) = b := by
  rw [List.contains_cons, hb]
  rfl
theorem has_L : (Value.ref C :: bmKey).contains (.type "LookupError") = true := skip_ref (by decide +kernel)
theorem has_K : (Value.ref C :: bmKey).contains (.type "KeyError") = true := skip_ref (by decide +kernel)
theorem no_A : (Value.ref C :: bmKey).contains (.type "AttributeError") = false := skip_ref (by decide +kernel)
theorem no_N : (Value.ref C :: bmKey).contains (.type "NameError") = false := skip_ref (by decide +kernel)
theorem key_check {rest : List Value} {Q : Unit → Shared → Prop} (hC : h.get? C = some (excClassObj nm q C N bs bmKey hdct sn sub ab col dd k0 k1 k2 k3 k5 "LookupError.__new__")) (hq : Q () ⟨h, g, d, t, os⟩) :
    wpAny M A (checkBuiltinCall "LookupError.__new__" ⟨.ref C :: rest, []⟩) Q E ⟨h, g, d, t, os⟩ := by
  have fl := F.excBase_LookupError
  have l1 := has_L (C := C)
  have l2 := fl.noStar
  simp only [checkBuiltinCall, fl.newKind, fl.newSplit, fl.newRow]
  repeat (first | refine wpAny_loadPart_at hC ?_ | (refine wpAny_isSubtype_exc hC ?_; rw [l1]) | refine wpAny_staticBase_exc hC ?_ | refine wpAny_madeBy_exc hC ?_ | simp only [bne_self_eq_false, Bool.false_eq_true, if_false] | wp_step)
  exact hq
theorem kin_entry : entryFor table "KeyError.__init__" = some Builtin.«BaseException.__init__» := entryFor_alias (id' := "BaseException.__init__") (by rw [fastTable_eq_tree]; kernel_rfl) (by first | rfl | decide +kernel) (by decide +kernel) (by rw [fastTable_eq_tree]; kernel_rfl)
theorem kin_split : splitId "KeyError.__init__" = some ("KeyError", "__init__") := by kernel_rfl
theorem kin_kind : builtinKind "KeyError.__init__" = some .slot := by kernel_rfl
theorem kin_row : Manifest.signature? "KeyError.__init__" = some ⟨.positional, "*", "KeyError", .self, [⟨"args", .varPos, false⟩]⟩ := by kernel_rfl
theorem key_check_init {e : Addr} {oe : Obj} {rest : List Value} {Q : Unit → Shared → Prop} (hC : h.get? C = some (excClassObj nm q C N bs bmKey hdct sn sub ab col dd k0 k1 k2 k3 k5 "LookupError.__new__")) (he : h.get? e = some oe) (ec : oe.cls = .ref C)
    (hq : Q () ⟨h, g, d, t, os⟩) : wpAny M A (checkBuiltinCall "KeyError.__init__" ⟨.ref e :: rest, []⟩) Q E ⟨h, g, d, t, os⟩ := by
  have l1 := has_K (C := C)
  have l2 : ("KeyError" != "*") = true := by decide +kernel
  simp only [checkBuiltinCall, kin_kind, kin_split, kin_row]
  repeat (first | (with_reducible refine wpAny_loadPart_at he ?_; rw [ec]) | with_reducible refine wpAny_loadPart_at hC ?_ | (with_reducible refine wpAny_isSubtype_exc hC ?_; rw [l1]) | wp_step)
  refine wpAny_onRaise ?_
  rw [show ∀ (a b : String) (n : Nat), Bind.check ⟨.positional, "*", "KeyError", .self, [⟨"args", .varPos, false⟩]⟩ a b n (List.map (fun x => x.fst) ({ pos := Value.ref e :: rest } : Args).kw) = pure () from fun a b n => check_star_args _ _ _ _ _ _]
  exact wpAny_pure hq
end
section
variable {prog : Program} {w : World} {A : Around} {E : Value → Shared → Prop} {R : Result → Shared → Prop} {h : Heap} {g : Array GenState} {d : Drawn} {t : Nat} {os : OsState}
variable {nm q : Str} {C N : Addr} {bs : List Value} {hdct : Bool} {sn : List Str} {sub : List Value} {ab : Bool} {col : Option Bool} {dd : Option Addr} {k0 k1 k2 k3 k5 : Option Value}
theorem key_new {rest : List Value} (hC : h.get? C = some (excClassObj nm q C N bs bmKey hdct sn sub ab col dd k0 k1 k2 k3 k5 "LookupError.__new__"))
    (hq : R (.ok (.ret (.ref (h.objs.size + 1)))) ⟨(h.push (W.kdv_tup rest)).push (excO C h.objs.size), g, d, t, os⟩) (hrest : rest.length ≤ sizeLine) : codeAny (model prog w) A (.builtin "LookupError.__new__" ⟨.ref C :: rest, []⟩) R ⟨h, g, d, t, os⟩ := by
  have fl := F.excBase_LookupError
  have ends0 := fl.ends
  have l1 := has_L (C := C)
  have l2 := no_A (C := C)
  have l3 := no_N (C := C)
  refine codeAny_builtinAt fl.entry ?_
  unfold Builtin.«BaseException.__new__»
  refine wpAt_bind ?_
  show wpAt _ _ _ (stack >>= _) _ _ _
  refine wpAt_bind (wpAt_stack fun p below => wpAt_of_wpAny ?_)
  wp_walk
  refine wpAt_of_wpAny ?_
  rw [fl.owner]
  repeat (first | with_reducible refine wpAny_madeHere_exc fl.canon hC ?_ | with_reducible refine wpAny_loadPart_at hC ?_ | (with_reducible refine wpAny_isSubtype_exc hC ?_; first | rw [l1] | rw [l2] | rw [l3]) | wp_step)
  show R _ _
  rw [Heap.size_push]
  exact hq
theorem key_type {rest : List Value} {fI : Addr} {Q : PySem.Fin → Shared → Prop} (hC : h.get? C = some (excClassObj nm q C N bs bmKey hdct sn sub ab col dd k0 k1 k2 k3 k5 "LookupError.__new__"))
    (hi : W.Looks (model prog w) h (typeLookup (.ref C) "__init__") (some (.ref fI))) (hb : ∀ self, W.Looks (model prog w) h (bindSpecial (.ref fI) self) (.ref fI, [self])) (hrest : rest.length ≤ sizeLine)
    (hq : codeAny (model prog w) A (.call (.ref fI) ⟨.ref (h.objs.size + 1) :: rest, []⟩) (fun r s' => match r with | .ok (.ret v) => v = .none ∧ Q (.done (.ret (.ref (h.objs.size + 1)))) s' | .ok _ => False | .error e => E e s')
      ⟨(h.push (W.kdv_tup rest)).push (excO C h.objs.size), g, d, t, os⟩) : wpAny (model prog w) A (Builtin.«type.__call__» ⟨.ref C :: rest, []⟩) Q E ⟨h, g, d, t, os⟩ := by
  have fl := F.excBase_LookupError
  repeat (first | with_reducible refine wpAny_loadPart_at hC ?_ | with_reducible refine wpAny_madeBy_exc hC ?_ | wp_step)
  refine codeAny_call_builtin_code (Code.quiet_builtin _ fl.quiet) (key_check hC (key_new hC ?_ hrest))
  show wpAny _ _ _ _ _ _
  have keep2 : ∀ b o, h.get? b = some o → ((h.push (W.kdv_tup rest)).push (excO C h.objs.size)).get? b = some o := fun b o z => Heap.get?_push_of_some _ (Heap.get?_push_of_some _ z)
  have hC2 := keep2 _ _ hC
  have here : ((h.push (W.kdv_tup rest)).push (excO C h.objs.size)).get? (h.objs.size + 1) = some (excO C h.objs.size) := by heap_get
  have self1 : (Value.ref C :: bmKey).contains (.ref C) = true := by simp
  have i2 := hi.keeps keep2
  have b2 := (hb (.ref (h.objs.size + 1))).keeps keep2
  unfold isInstance
  repeat (first | with_reducible refine wpAny_loadPart_at here ?_ | (with_reducible refine wpAny_isSubtype_exc hC2 ?_; rw [self1]) | wp_step)
  show wpAny _ _ (typeLookup (.ref C) _) _ _ _
  refine i2.at (wpAny_holding (wpAny_bind (b2.at (wpAny_bind (wpAny_call (codeAny_mono hq fun r s' z => ?_))))))
  rcases r with e | (v | _ | _ | _) <;> first | exact z | exact z.elim | skip
  obtain ⟨rfl, z⟩ := z
  first
    | exact wpAny_pure (wpAny_pure z)
    | (wp_walk; exact z)
/-- the class is called -/
theorem key_call {rest : List Value} {fI : Addr} (hC : h.get? C = some (excClassObj nm q C N bs bmKey hdct sn sub ab col dd k0 k1 k2 k3 k5 "LookupError.__new__")) (hi : W.Looks (model prog w) h (typeLookup (.ref C) "__init__") (some (.ref fI)))
    (hb : ∀ self, W.Looks (model prog w) h (bindSpecial (.ref fI) self) (.ref fI, [self])) (hrest : rest.length ≤ sizeLine)
    (hq : codeAny (model prog w) (A.under (.builtin "type.__call__" ⟨.ref C :: rest, []⟩)) (.call (.ref fI) ⟨.ref (h.objs.size + 1) :: rest, []⟩) (W.InitBack (h.objs.size + 1) R) ⟨(h.push (W.kdv_tup rest)).push (excO C h.objs.size), g, d, t, os⟩) :
    codeAny (model prog w) A (.call (.ref C) ⟨rest, []⟩) R ⟨h, g, d, t, os⟩ := by
  have look1 := tc_lookup
  have look2 := tc_bind (.ref C)
  have isTy : (⟨h, g, d, t, os⟩ : Shared).TypeIs (.ref C) "type" := ⟨_, hC, rfl⟩
  refine codeAny_of_tree ?_
  show wpAny _ _ (callAny (.ref C) _) _ _ _
  repeat (any_goals (first | assumption | with_reducible refine wpAny_loadPart_at hC ?_ | wp_step))
  refine ⟨rfl, codeAny_call_builtin_at (Code.quiet_builtin _ (by decide +kernel)) entry_typeCall (wpAny_check_type_call_sub hC (key_type hC hi hb hrest (codeAny_mono hq fun r s' z => ?_)))⟩
  rcases r with e | (v | _ | _ | _) <;> exact z
theorem key_init {e t0 : Addr} {rest : List Value} (hC : h.get? C = some (excClassObj nm q C N bs bmKey hdct sn sub ab col dd k0 k1 k2 k3 k5 "LookupError.__new__")) (he : h.get? e = some (excO C t0)) (hrest : rest.length ≤ sizeLine)
    (hq : ∀ h' t1, (∀ b o, b ≠ e → h.get? b = some o → h'.get? b = some o) → h'.get? e = some (excO C t1) → R (.ok (.ret .none)) ⟨h', g, d, t, os⟩) : codeAny (model prog w) A (.call (.builtin "KeyError.__init__") ⟨.ref e :: rest, []⟩) R ⟨h, g, d, t, os⟩ := by
  have plain : plainId "KeyError.__init__" = true := by decide +kernel
  refine codeAny_call_builtin plain kin_entry (key_check_init hC he rfl ?_)
  wp_walk
  refine hq _ h.objs.size (fun b o hb ho => ?_) ?_
  · rw [Heap.get?_update_other _ _ (Ne.symm hb)]
    exact Heap.get?_push_of_some _ ho
  · rw [Heap.get?_update_self _ (Heap.get?_push_of_some _ he) rfl]
    rfl
end
end Mi
/-! Mi: own errors that keep a value, over other bases than ValueError. -/
namespace Mi
open PySem PySem.Spec PyProof.Rows L2

/-- a built-in class of errors that own ones stand over; xb: its name -/
structure XB (xb : Str) (B nw ini : String) (bm : List Value) : Prop where
  init : ∀ {prog : Program} {w : World} {A : Around} {R : Result → Shared → Prop} {h : Heap} {g : Array GenState} {d : Drawn} {t : Nat} {os : OsState} {nm q : Str} {C N : Addr} {bs : List Value} {hdct : Bool} {sn : List Str} {sub : List Value} {ab : Bool} {col : Option Bool} {dd : Option Addr} {k0 k1 k2 k3 k5 : Option Value} {e t0 : Addr} {rest : List Value},
    h.get? C = some (excClassObj nm q C N bs bm hdct sn sub ab col dd k0 k1 k2 k3 k5 nw) → h.get? e = some (PySem.HandSPX.excO C t0) → rest.length ≤ sizeLine → (∀ h' t1, (∀ b o, b ≠ e → h.get? b = some o → h'.get? b = some o) → h'.get? e = some (PySem.HandSPX.excO C t1) → R (.ok (.ret .none)) ⟨h', g, d, t, os⟩) →
    codeAny (model prog w) A (.call (.builtin ini) ⟨.ref e :: rest, []⟩) R ⟨h, g, d, t, os⟩
  own : ∀ {prog : Program} {w : World} {A : Around} {R : Result → Shared → Prop} {h : Heap} {g : Array GenState} {d : Drawn} {t : Nat} {os : OsState} {nm q : Str} {C N : Addr} {bs : List Value} {hdct : Bool} {sn : List Str} {sub : List Value} {ab : Bool} {col : Option Bool} {dd : Option Addr} {k0 k1 k2 k3 k5 : Option Value} {rest : List Value} {fI : Addr},
    h.get? C = some (excClassObj nm q C N bs bm hdct sn sub ab col dd k0 k1 k2 k3 k5 nw) → PySem.W.Looks (model prog w) h (typeLookup (.ref C) "__init__") (some (.ref fI)) → (∀ self, PySem.W.Looks (model prog w) h (bindSpecial (.ref fI) self) (.ref fI, [self])) → rest.length ≤ sizeLine →
    codeAny (model prog w) (A.under (.builtin "type.__call__" ⟨.ref C :: rest, []⟩)) (.call (.ref fI) ⟨.ref (h.objs.size + 1) :: rest, []⟩) (PySem.W.InitBack (h.objs.size + 1) R) ⟨(h.push (PySem.W.kdv_tup rest)).push (PySem.HandSPX.excO C h.objs.size), g, d, t, os⟩ →
    codeAny (model prog w) A (.call (.ref C) ⟨rest, []⟩) R ⟨h, g, d, t, os⟩
  S : PySem.StoreFacts B bm "object.__setattr__" "object"
  boot : bootBuiltins xb = some (.type B)
  typ : typeOf (.type B) = pure (.type "type")
  stub : Manifest.isStub B = false
  nm : xb ≠ "__name__"
  db : (xb == ("__debug__" : Str)) = false
  hand : PySem.W.handedIn (.builtin ini) = true
/-- what the written part says of the own class -/
structure VC (K : PySem.W.Frag) (C : Addr) (nw : String) (bm : List Value) : Prop where
  cls : ∃ nm q N bs sn sub ab col dd k0 k1 k2 k3 k5, K.lookup C = some (excClassObj nm q C N bs bm true sn sub ab col dd k0 k1 k2 k3 k5 nw)
  sa : PySem.W.findIn K (.ref C) "__setattr__" = some (some (.builtin "object.__setattr__"))
  be : PySem.W.subIn K (.ref C) (.type "BaseException") = some true
  ty : PySem.W.typeIn K (.ref C) = some (.type "type")
  kp : PySem.W.keepIn K (.ref C) = true
theorem xb_Runtime : XB "RuntimeError" "RuntimeError" "RuntimeError.__new__" "RuntimeError.__init__" [.type "RuntimeError", .type "Exception", .type "BaseException", .type "object"] where
  init := PySem.HandSPX.init_base F.excBase_RuntimeError (fun _ => rfl)
  own := PySem.HandSPX.call_own F.excBase_RuntimeError (fun _ => rfl)
  S := F.store_RuntimeError
  boot := PyProof.Rows.Boot.«RuntimeError»
  typ := by kernel_rfl
  stub := by decide +kernel
  nm := by decide
  db := by decide
  hand := by decide +kernel
theorem xb_Lookup : XB "LookupError" "LookupError" "LookupError.__new__" "LookupError.__init__" [.type "LookupError", .type "Exception", .type "BaseException", .type "object"] where
  init := PySem.HandSPX.init_base F.excBase_LookupError (fun _ => rfl)
  own := PySem.HandSPX.call_own F.excBase_LookupError (fun _ => rfl)
  S := F.store_LookupError
  boot := PyProof.Rows.Boot.«LookupError»
  typ := by kernel_rfl
  stub := by decide +kernel
  nm := by decide
  db := by decide
  hand := by decide +kernel
theorem xb_Index : XB "IndexError" "IndexError" "IndexError.__new__" "IndexError.__init__" [.type "IndexError", .type "LookupError", .type "Exception", .type "BaseException", .type "object"] where
  init := PySem.HandSPX.init_base F.excBase_IndexError (fun _ => rfl)
  own := PySem.HandSPX.call_own F.excBase_IndexError (fun _ => rfl)
  S := F.store_IndexError
  boot := PyProof.Rows.Boot.«IndexError»
  typ := by kernel_rfl
  stub := by decide +kernel
  nm := by decide
  db := by decide
  hand := by decide +kernel
theorem xb_Overflow : XB "OverflowError" "OverflowError" "OverflowError.__new__" "OverflowError.__init__" [.type "OverflowError", .type "ArithmeticError", .type "Exception", .type "BaseException", .type "object"] where
  init := PySem.HandSPX.init_base F.excBase_OverflowError (fun _ => rfl)
  own := PySem.HandSPX.call_own F.excBase_OverflowError (fun _ => rfl)
  S := F.store_OverflowError
  boot := PyProof.Rows.Boot.«OverflowError»
  typ := by kernel_rfl
  stub := by decide +kernel
  nm := by decide
  db := by decide
  hand := by decide +kernel
theorem store_Key : PySem.StoreFacts "KeyError" bmKey "object.__setattr__" "object" where
  mro := by kernel_rfl
  slot := .of (owner := "object") (n := "__setattr__") (by rw [typeLookup_type, builtinLookup_eq_fast]; kernel_rfl) (by decide +kernel) (by decide +kernel) (by decide +kernel) (by first | exact .inl (by decide +kernel) | exact .inr (by decide +kernel)) (by rw [isSubtype_type]; kernel_rfl)
  entry := F.store_LookupError.entry
  kind := F.store_LookupError.kind
  split := F.store_LookupError.split
  hasOwner := by decide +kernel
  args := F.store_LookupError.args
  passes := fun self => by kernel_rfl
theorem xb_Key : XB "KeyError" "KeyError" "LookupError.__new__" "KeyError.__init__" bmKey where
  init := key_init
  own := key_call
  S := store_Key
  boot := by decide +kernel
  typ := by kernel_rfl
  stub := by decide +kernel
  nm := by decide
  db := by decide
  hand := by decide +kernel
def isTy : Value → Bool
  | .type _ => true
  | _ => false
theorem tys_of {bm : List Value} (h : bm.all isTy = true) : ∀ v ∈ bm, ∃ T, v = .type T := fun v m => by
  have := List.all_eq_true.mp h v m
  cases v <;> first | exact ⟨_, rfl⟩ | cases this
section
open Builtin Builtin.ObjectAttr
variable {prog : Program} {w : World} {A : Around} {E : Value → Shared → Prop} {R : Result → Shared → Prop} {hp : Heap} {gs : Array GenState} {dr : Drawn} {t : Nat} {os : OsState}
theorem tail_all (bm : List Value) : (∀ v ∈ bm, ∃ T, v = .type T) → PySem.W.excTail bm bm = true := fun h => by
  cases bm with
  | nil => rfl
  | cons v r =>
    obtain ⟨T, rfl⟩ := h v List.mem_cons_self
    show (_ == _) = true
    exact beq_iff_eq.mpr rfl
/-- the first field of an error -/
theorem osa_x {K : PySem.W.Frag} {f : Str} {tk : Tok} {v : Value} {x C : Addr} {fv : Array Value} {xb : Str} {B nw ini : String} {bm : List Value} (xB : XB xb B nw ini bm) (hb : ∀ v ∈ bm, ∃ T, v = .type T) (T : VC K C nw bm)
    (KX : K.In hp) (hx : hp.get? x = some { cls := .ref C, data := .fields fv }) (hn : PySem.W.findIn K (.ref C) f = some none)
    (hq : ∀ h' tk' dx, (∀ b o, b ≠ x → hp.get? b = some o → h'.get? b = some o) → hp.objs.size ≤ dx → dx ≠ x → h'.get? x = some { cls := .ref C, dict := some dx, data := .fields fv } →
      h'.Ns1 dx (fun y => if y = f then some v else none) → R (.ok (.ret .none)) ⟨h', gs, dr, tk', os⟩) :
    codeAny (model prog w) A (.call (.builtin "object.__setattr__") ⟨[.ref x, .str f tk, v], []⟩) R ⟨hp, gs, dr, t, os⟩ := by
  obtain ⟨nm, q, N, bs, sn, sub, ab, col, dd, k0, k1, k2, k3, k5, hC⟩ := T.cls
  have hcl : PySem.W.clsIn K C = some { name := nm, bases := bs, mro := .ref C :: bm, ns := N, qualname := q, hasDict := true, slotNames := sn, subclasses := sub, abstract := ab, collection := col, hasDel := false } := by
    unfold PySem.W.clsIn
    rw [hC] <;> rfl
  have hcls := PySem.W.looks_clsIn (M := model prog w) KX hcl
  have xne : x ≠ hp.objs.size := Nat.ne_of_lt (Heap.lt_size hx)
  have over : PySem.W.excOver K C bm = true := by
    unfold PySem.W.excOver
    rw [hcl]
    show ((C == C) && PySem.W.excTail bm bm) = true
    rw [tail_all bm hb, beq_self_eq_true]
    rfl
  have tak : PySem.W.takerIn K C f = some none := by
    unfold PySem.W.takerIn
    rw [hn]
    rfl
  refine PySem.W.osa_openX (s := ⟨hp, gs, dr, t, os⟩) (od := none) xB.S KX ⟨hx, rfl, rfl, trivial⟩ over tak fun b => ?_
  show wpAny _ _ (storeInOwnDict (.ref x) (.ref C) (.str f tk) f v b) _ _ _
  unfold storeInOwnDict ownDictForStores
  repeat (first | with_reducible refine PySem.HandSPX.store_in_new ?_ ?_ | with_reducible refine wpAny_loadPart_at hx ?_ | with_reducible refine hcls.at ?_ | wp_step)
  · exact ⟨_, #[], _, (Heap.get?_update_ne _ _ _ _ xne.symm).trans (Heap.get?_push_at rfl rfl), rfl, fun e he => absurd he (by simp), fun _ => rfl⟩
  · intro h' tk' hn' hs
    have hx1 : (hp.push { cls := .type "dict", data := .dict #[] }).get? x = some { cls := .ref C, data := .fields fv } := Heap.get?_push_of_some _ hx
    refine hq h' tk' hp.objs.size (fun b o hb ho => ?_) (Nat.le_refl _) xne.symm ?_ hn'
    · exact (hs.2 b (Nat.ne_of_lt (Heap.lt_size ho))).trans ((Heap.get?_update_ne _ _ _ _ hb).trans (Heap.get?_push_of_some _ ho))
    · exact (hs.2 x xne).trans (Heap.get?_update_self _ hx1 rfl)
end

section
variable {X : Cx} {pins : List (Addr × Obj)} {σ : Sg} {H : Hp} {s : Shared} {a C : Addr} {f : Str} {y : V} {u : Value} {Q : Unit → Shared → Prop} {E : Value → Shared → Prop} {A : Around} {xb : Str} {B nw ini : String} {bm : List Value}
theorem oput (xB : XB xb B nw ini bm) (hb : ∀ v ∈ bm, ∃ T, v = .type T) (T : VC X.K C nw bm) (I : Inv X pins σ H s) (e : H a = some (exo a C none)) (hno : PySem.W.findIn X.K (.ref C) f = some none) (ry : RelV y u)
    (k : ∀ dx s', H dx = none → dx ≠ a → Inv X pins σ (upd (upd H dx (exd dx [(f, y)])) a (exo a C (some dx))) s' → Q () s') : wpAny (model X.prog X.w) A (setAttr (.ref a) f u) Q E s := by
  obtain ⟨t1, ho⟩ := exo_at I.hok e
  obtain ⟨hp, gs, dr, t, os⟩ := s
  refine PySem.W.set_plain I.kIn (ox := { cls := .ref C, dict := none, data := .fields #[.ref t1, .none, .none, .none, .bool false, .none] }) (od := none) ⟨ho, rfl, rfl, trivial⟩ T.sa ?_
  refine osa_x xB hb T I.kIn ho hno fun h' tk' dx kk dn dne hx hn => ?_
  have free : H dx = none := I.hok.fresh dn
  have nd : ∀ {b : Addr} {o : Obj}, hp.get? b = some o → b ≠ dx := fun {b o} z => Nat.ne_of_lt (Nat.lt_of_lt_of_le (Heap.lt_size z) dn)
  have na : ∀ {b : Addr}, H b = none → b ≠ a := fun {b} n z => by rw [z, e] at n; cases n
  have U : Un X.fs [] H (upd (upd H dx (exd dx [(f, y)])) a (exo a C (some dx))) hp h' := by
    refine ⟨fun b o z n _ _ => kk b o (na n) z, fun b o z n _ _ => ⟨o.slots, kk b o (na n) z⟩, fun b o z n _ => ?_, fun b o z _ => ?_, fun b xs z => ?_, fun b o v z => ?_, fun b ps z => ⟨#[], ?_⟩⟩
    · rw [upd_ne (na n), upd_ne (nd z)]; exact n
    · by_cases hba : b = a
      · exact ⟨_, by rw [hba]; exact hx⟩
      · exact ⟨o, kk b o hba z⟩
    · rw [upd_ne (at_ne e z exo_tup), upd_ne (ne_of_none z free)]; exact z
    · rw [upd_ne (at_ne e z exo_frz), upd_ne (ne_of_none z free)]; exact z
    · rw [upd_ne (at_ne e z exo_tbl), upd_ne (ne_of_none z free), z]; simp
  refine k dx _ free dne (I.un (t' := tk') U fun b o z => ?_)
  by_cases hba : b = a
  · subst hba
    rw [upd_same] at z
    cases z
    exact exo_ok hx
  · rw [upd_ne hba] at z
    by_cases hbd : b = dx
    · subst hbd
      rw [upd_same] at z
      cases z
      exact exd_ok hn (relO_put (fs := []) ry fun g => True.intro)
    · rw [upd_ne hbd] at z
      exact (I.hok b o z).stay (fun c v hc q => kk c v (hc.elim (fun hc => by rw [hc]; exact hba) fun hc => at_ne e hc exo_own) q)
        (fun c hc => by rw [upd_ne (at_ne e hc exo_own), upd_ne (ne_of_none hc free)]; exact hc) (fun c xs hc => by rw [upd_ne (at_ne e hc exo_tup), upd_ne (ne_of_none hc free)]; exact hc)
/-- the base's own __init__ -/
theorem oini {us : List Value} {Q : Value → Shared → Prop} (xB : XB xb B nw ini bm) (T : VC X.K C nw bm) (I : Inv X pins σ H s) (e : H a = some (exo a C none)) (hl : us.length ≤ sizeLine) (k : ∀ s', Inv X pins σ H s' → Q .none s') :
    wpAny (model X.prog X.w) A (call (.builtin ini) (.ref a :: us)) Q E s := by
  obtain ⟨nm, q, N, bs, sn, sub, ab, col, dd, k0, k1, k2, k3, k5, hC⟩ := T.cls
  obtain ⟨t1, ho⟩ := exo_at I.hok e
  obtain ⟨hp, gs, dr, t, os⟩ := s
  refine wpAny_call (xB.init (I.kIn _ _ hC) ho hl fun h' t2 kk hx => ?_)
  have J := I.write (t' := t) (x := a) (e := a) (o := exo a C none) (by rw [e]; exact True.intro) (.inl rfl) kk ⟨_, hx⟩ (exo_ok hx)
  have same : upd H a (exo a C none) = H := funext fun b => by
    by_cases hba : b = a
    · rw [hba, upd_same, e]
    · exact upd_ne hba
  rw [same] at J
  exact k _ J
end

section
variable {X : Cx} {o e : Expr} {es : List Expr} {to te : TE} {ta : TA} {f : Str} {p p' p1 p2 pos : Pos} {xb : Str} {B nw ini : String} {bm : List Value} {C : Addr}
/-- Base.__init__(self, ..) -/
def tIni (K : PySem.W.Frag) (nw : String) (bm : List Value) (ta : TA) : TE := fun σ H Q => ta σ H fun vs H1 => ∃ (a C : Addr) (ws : List V), vs = .ref a :: ws ∧ ws.length ≤ 1000 ∧ VC K C nw bm ∧ H1 a = some (exo a C none) ∧ Q .non H1
theorem pe_ini {pl : Sem Bool} (xB : XB xb B nw ini bm) (hg : Gl X xb) (hm : X.mg xb = none) (vV : PySem.W.findCls X.K (.type B) (.type "type") "__init__" = some (.val (.builtin ini))) (ha : PA X (e :: es) ta)
    (hc : eval (.Call (.Attribute (.Name xb p1) "__init__" p2) (e :: es) [] pos) X.env = (do
      let ov ← eval (.Name xb p1) X.env
      standAt p2.atName
      let (g, first) ← holding [ov] (getMethod ov "__init__" pl)
      callWith pos g first (backTo pos (starEach (e :: es) X.env)) (backToKw pos (keywordEach [] X.env))))
    (he : starEach (e :: es) X.env = (false, eval e X.env) :: starEach es X.env) (hpl : (backTo pos (starEach es X.env)).any (·.1) = false) :
    PE X (.Call (.Attribute (.Name xb p1) "__init__" p2) (e :: es) [] pos) (tIni X.K nw bm ta) := by
  refine ⟨fun pins s σ H Q I h => ?_⟩
  refine PySem.W.methodCall_KW (ld_blt I hg hm xB.boot ?_ xB.nm xB.db) hc
  obtain ⟨m, fr⟩ := I.fr
  refine PySem.W.method_type fr I.ok.mod.kin xB.typ xB.stub vV xB.hand ?_
  show wpAny _ _ (callWith pos (Value.builtin ini) [] (backTo pos (starEach (e :: es) X.env)) []) _ _ _
  refine PyProof.Rows.callWith_method1 (thn (ha.run pos pins _ σ H _ (I.tok _) h) fun us s1 ⟨vs, H1, I1, r1, a, C, ws, ev, hl, T, ea, q⟩ => ?_) he hpl
  subst ev
  cases r1 with
  | @cons _ u0 _ ur ra rw' =>
    obtain rfl : u0 = Value.ref a := ra
    exact oini xB T I1 ea (by rw [← Paired.length rw', sizeLine_eq]; omega) fun s' J => ⟨.non, H1, J, rfl, q⟩
def tPut (K : PySem.W.Frag) (nw : String) (bm : List Value) (f : Str) (to te : TE) : TS := fun D σ H => te σ H fun y H1 => to σ H1 fun x H2 => ∃ a C : Addr, x = .ref a ∧ VC K C nw bm ∧ PySem.W.findIn K (.ref C) f = some none ∧
  H2 a = some (exo a C none) ∧ ∀ dx, H2 dx = none → dx ≠ a → D.nx σ (upd (upd H2 dx (exd dx [(f, y)])) a (exo a C (some dx)))
theorem ps_put (xB : XB xb B nw ini bm) (hb : ∀ v ∈ bm, ∃ T, v = .type T) (ho : PE X o to) (he : PE X e te) (hs : swapsWith e (some (.Attribute o f p')) pos.line X.env = pure false) : PS X (.Assign [.Attribute o f p'] e pos) (tPut X.K nw bm f to te) := by
  refine ⟨fun pins s σ H D I h => ?_⟩
  refine plainObj_wpAny_Assign_Attribute (thn (he.run pins s σ H _ I h) fun v s1 ⟨y, H1, I1, r1, q1⟩ => thn (ho.run pins s1 σ H1 _ I1 q1) fun u s2 ⟨x, H2, I2, r2, a, C, ex, T, hno, ea, q⟩ => ?_) hs
  subst ex
  obtain rfl : u = Value.ref a := r2
  exact oput xB hb T I2 ea hno r1 fun dx s' n ne J => ⟨σ, _, J, q dx n ne⟩

/-- what an own __init__ of the one shape does -/
def spI (C : Addr) (f : Str) : Sp := fun vs H Q E => ∃ a v, vs = [.ref a, v] ∧ H a = some (exo a C none) ∧ ∀ dx, H dx = none → dx ≠ a → Q .non (upd (upd H dx (exd dx [(f, v)])) a (exo a C (some dx)))
/-- C(e): an error with one field -/
theorem pmk_v {CX : CXT} {x : Str} {fI : Addr} {k : Nat} {fd : FuncData} {ps : List Str} (xB : XB xb B nw ini bm) (T : VC X.K C nw bm) (iC : PySem.W.findIn X.K (.ref C) "__init__" = some (some (.ref fI))) (tI : PySem.W.typeIn X.K (.ref fI) = some (.type "function"))
    (F1 : FnOk X.prog X.w X.K X.mg X.base CX k fI fd ps (spI C f)) (hr : Room (k + 1) X.A) (hbd : Binds X.K fd ps []) (hx : Passes CX X (fun _ _ _ => False)) (hg : Gl X x) (hm : X.mg x = some (.ref C))
    (hdb : (x == ("__debug__" : Str)) = false) (hse : starEach [e] X.env = (false, eval e X.env) :: starEach [] X.env) :
    PMk X (.Call (.Name x p) [e] [] pos) (fun σ H Q => wE X e σ H fun v H1 => ∀ d, H1 d = none → Q (.ref C) (some d) (upd H1 d (.xd [(f, v)]))) := by
  intro pins s σ H Q I h
  obtain ⟨nm, q, N, bs, sn, sub, ab, col, dd, k0, k1, k2, k3, k5, hC⟩ := T.cls
  have ha : PA X [e] (tCons (wE X e) tNil) := pa_cons pe_w pa_nil hse
  refine wpAny_Call_Name_kw (ld_glob I hg hm ?_ hdb)
  refine PySem.W.callWith_K (h₀ := X.base) I.ok.mod.kin T.kp (thn (ha.run pos pins s σ H (fun vs H1 => ∃ v, vs = [v] ∧ ∀ d, H1 d = none → Q (.ref C) (some d) (upd H1 d (.xd [(f, v)]))) I ?_) fun us s1 ⟨vs, H1, I1, r1, v, ev, q1⟩ => ⟨I1.kIn, ?_⟩) hse rfl
  · exact wE_mono h fun v H1 q => ⟨v, rfl, q⟩
  subst ev
  show wpAny _ _ (call (.ref C) us) _ _ _
  obtain ⟨hp, gs, dr, tk, os⟩ := s1
  have hsz : hp.objs.size ≤ hp.objs.size + 1 := Nat.le_succ _
  have hn : H1 (hp.objs.size + 1) = none := I1.hok.fresh hsz
  have kk : ∀ b o, hp.get? b = some o → ((hp.push (PySem.W.kdv_tup us)).push (PySem.HandSPX.excO C hp.objs.size)).get? b = some o := fun b o z => Heap.get?_push_of_some _ (Heap.get?_push_of_some _ z)
  have hget : ((hp.push (PySem.W.kdv_tup us)).push (PySem.HandSPX.excO C hp.objs.size)).get? (hp.objs.size + 1) = some (PySem.HandSPX.excO C hp.objs.size) := by heap_get
  have I2 : Inv X pins σ (upd H1 (hp.objs.size + 1) (exo (hp.objs.size + 1) C none)) ⟨(hp.push (PySem.W.kdv_tup us)).push (PySem.HandSPX.excO C hp.objs.size), gs, dr, tk, os⟩ :=
    I1.laid (t' := tk) (a := hp.objs.size + 1) (o := exo (hp.objs.size + 1) C none) (h' := (hp.push (PySem.W.kdv_tup us)).push (PySem.HandSPX.excO C hp.objs.size)) kk hsz (exo_ok hget)
  have r2 : Vals (V.ref (hp.objs.size + 1) :: [v]) (Value.ref (hp.objs.size + 1) :: us) := .cons rfl r1
  have hq : spI C f [V.ref (hp.objs.size + 1), v] (upd H1 (hp.objs.size + 1) (exo (hp.objs.size + 1) C none))
      (fun w H2 => w = .non ∧ ∃ d, H1 d = none ∧ d ≠ hp.objs.size + 1 ∧ H2 = upd (upd (upd H1 (hp.objs.size + 1) (exo (hp.objs.size + 1) C none)) d (exd d [(f, v)])) (hp.objs.size + 1) (exo (hp.objs.size + 1) C (some d))) (fun _ _ _ => False) := by
    refine ⟨_, _, rfl, upd_same, fun dx n ne => ⟨rfl, dx, ?_, ne, rfl⟩⟩
    rw [upd_ne ne] at n
    exact n
  have hl : (Value.ref (hp.objs.size + 1) :: us).length = ps.length := by
    have e := r2.length
    rw [F1.len _ _ _ _ hq] at e
    exact e.symm
  have hus : us.length ≤ sizeLine := by
    rw [← Paired.length r1, sizeLine_eq]
    show 1 ≤ _
    omega
  refine wpAny_call (xB.own (I1.kIn _ _ hC) (PySem.W.looks_findIn I1.kIn iC) (fun self => PySem.W.bind_fn I1.kIn self tI) hus
    (codeAny_mono (F1.run _ X.stack _ _ ⟨Value.ref (hp.objs.size + 1) :: us, []⟩ (Value.ref (hp.objs.size + 1) :: us) _ _ (fun _ _ _ => False) (hr.make C us []) (I2.env0.make C us []) (by
      have b := hbd _ (Value.ref (hp.objs.size + 1) :: us) I2.kIn (by rw [List.append_nil]; exact hl)
      rw [List.append_nil] at b
      exact b) r2 hq) fun r s' hq' => ?_))
  cases r with
  | error er => exact hx pins σ _ _ er s' I2 hq'
  | ok fl =>
    cases fl with
    | ret u =>
      obtain ⟨v', H2, os2, bare2, un2, hok2, rv, ev, d, hd1, hda, e2⟩ := hq'
      subst ev
      subst e2
      obtain ⟨h2, g2, d2, t2, os'⟩ := s'
      refine ⟨rv, L2.mk_end (fs := [(f, v)]) (raises_own T.be T.ty) I1 hsz kk un2 hok2 os2 bare2 upd_same (by rw [upd_ne hda, upd_same]) hd1 ?_⟩
      have eH : upd (del (upd (upd (upd H1 (hp.objs.size + 1) (exo (hp.objs.size + 1) C none)) d (exd d [(f, v)])) (hp.objs.size + 1) (exo (hp.objs.size + 1) C (some d))) (hp.objs.size + 1)) d (.xd [(f, v)]) = upd H1 d (.xd [(f, v)]) := by
        funext b
        by_cases hbd : b = d
        · rw [hbd, upd_same, upd_same]
        · rw [upd_ne hbd, upd_ne hbd]
          by_cases hba : b = hp.objs.size + 1
          · rw [hba, del_same, hn]
          · rw [del_ne hba, upd_ne hba, upd_ne hbd, upd_ne hba]
      rw [eH]
      exact q1 d hd1
    | next => exact False.elim hq'
    | brk => exact False.elim hq'
    | cont => exact False.elim hq'
end

/-! ### the class as it stands in the written part -/
def vcB (K : PySem.W.Frag) (C : Addr) (nw : String) (bm : List Value) : Bool :=
  (match K.lookup C with
  | some ⟨.type "type", _, .cls cd, sl⟩ => decide (cd.mro = .ref C :: bm) && cd.hasDict && !cd.hasDel && (match sl.toList with
    | [_, _, _, _, some (.builtin m), _] => m == nw
    | _ => false)
  | _ => false) &&
  decide (PySem.W.findIn K (.ref C) "__setattr__" = some (some (.builtin "object.__setattr__"))) && (PySem.W.subIn K (.ref C) (.type "BaseException") == some true) && (PySem.W.typeIn K (.ref C) == some (.type "type")) && PySem.W.keepIn K (.ref C)
theorem vcB_ok {K : PySem.W.Frag} {C : Addr} {nw : String} {bm : List Value} (q : vcB K C nw bm = true) : VC K C nw bm := by
  unfold vcB at q
  simp only [Bool.and_eq_true] at q
  obtain ⟨⟨⟨⟨q, q2⟩, q3⟩, q4⟩, q5⟩ := q
  refine ⟨?_, of_decide_eq_true q2, eq_of_beq q3, eq_of_beq q4, q5⟩
  split at q
  · rename_i dd cd sl ho
    simp only [Bool.and_eq_true, Bool.not_eq_true'] at q
    obtain ⟨⟨⟨m1, m2⟩, m3⟩, m4⟩ := q
    split at m4
    · rename_i k0 k1 k2 k3 mm k5 hs
      have m1 := of_decide_eq_true m1
      have m4 := eq_of_beq m4
      obtain ⟨nm, bs, mro, ns, qn, hd, sn, sub, ab, col, del⟩ := cd
      dsimp only at m1 m2 m3
      subst m1 m2 m3 m4
      have hsl : sl = #[k0, k1, k2, k3, some (.builtin mm), k5] := by
        obtain ⟨l⟩ := sl
        simp only at hs
        rw [hs]
      subst hsl
      exact ⟨nm, qn, ns, bs, sn, sub, ab, col, dd, k0, k1, k2, k3, k5, ho⟩
    · cases m4
  · cases q
/-- an own class: its name, its field, its base's name; its __init__: qualified name, statement, names of self and the value -/
structure ClsE where
  x : Str
  f : Str
  xb : Str
  qn : Str
  st : Stmt
  sf : Str
  pr : Str
structure VcK (K : PySem.W.Frag) (x f : Str) : Prop where
  ex : ∃ C xb, PySem.W.nsIn K mainGlobals x = some (some (.ref C)) ∧ PySem.W.nsIn K mainGlobals xb = some none ∧ ∀ pg : Pg, pg.K = K → pg.mg xb = none → ClsV pg C f
theorem VcK.of {K : PySem.W.Frag} {D : ClsE} {C fI : Addr} {B nw ini : String} {bm : List Value} {oc kV doc pm cdv ct : Value} {od an : Option Addr} {osl : Array (Option Value)} {m : Str} {j : Nat} {p1 p2 p3 p4 p5 p6 p7 p8 p9 p10 : Pos}
    (xB : XB D.xb B nw ini bm) (hb : ∀ v ∈ bm, ∃ T, v = .type T) (a : PySem.W.nsIn K mainGlobals D.x = some (some (.ref C))) (z : PySem.W.nsIn K mainGlobals D.xb = some none) (vc : vcB K C nw bm = true) (xf : xfB K C = true) (nf : PySem.W.findIn K (.ref C) D.f = some none)
    (iC : PySem.W.findIn K (.ref C) "__init__" = some (some (.ref fI))) (tI : PySem.W.typeIn K (.ref fI) = some (.type "function")) (vV : PySem.W.findCls K (.type B) (.type "type") "__init__" = some (.val (.builtin ini)))
    (lk : K.lookup fI = some ⟨oc, od, .func (PySem.W.fnOf "__init__" D.qn (defArgs D.st) (defBody D.st) (defScope D.st) .none kV doc pm an cdv ct), osl⟩) (hcd : PySem.W.codeIn K cdv D.qn = true) (S : FnScope [D.sf, D.pr] [D.sf, D.pr] (defScope D.st))
    (bd : ∀ (kV doc pm : Value) (an : Option Addr) (cdv ct : Value) (us : List Value), us.length = 2 → bindArgs (PySem.W.fnOf "__init__" D.qn (defArgs D.st) (defBody D.st) (defScope D.st) .none kV doc pm an cdv ct) ⟨us, []⟩ = pure ([D.sf, D.pr].zip us))
    (body : defBody D.st = [.Expr (.Call (.Attribute (.Name D.xb p1) "__init__" p2) [.Name D.sf p3, .Constant (.str m) j p4] [] p5) p6, .Assign [.Attribute (.Name D.sf p7) D.f p8] (.Name D.pr p9) p10])
    (hs : (defScope D.st).names.lookup D.xb = some .globalImplicit) (h1 : visB (defScope D.st) D.sf = true) (h2 : visB (defScope D.st) D.pr = true) (h3 : plainName D.sf = true) (h4 : plainName D.pr = true)
    (hc : ∀ (env : Env), ∃ pl : Sem Bool, eval (.Call (.Attribute (.Name D.xb p1) "__init__" p2) [.Name D.sf p3, .Constant (.str m) j p4] [] p5) env = (do
      let ov ← eval (.Name D.xb p1) env
      standAt p2.atName
      let (g, first) ← holding [ov] (getMethod ov "__init__" pl)
      callWith p5 g first (backTo p5 (starEach [.Name D.sf p3, .Constant (.str m) j p4] env)) (backToKw p5 (keywordEach [] env)))) : VcK K D.x D.f := by
  refine ⟨C, D.xb, a, z, fun pg hK hmb => ?_⟩
  subst hK
  have T := vcB_ok vc
  have F1 : ∀ {CX : CXT} {P : Program} {w : World} {base : Heap}, FnOk P w pg.K pg.mg base CX 1 fI (PySem.W.fnOf "__init__" D.qn (defArgs D.st) (defBody D.st) (defScope D.st) .none kV doc pm an cdv ct) [D.sf, D.pr] (spI C D.f) := fun {CX P w base} => by
    refine fn_of lk hcd S (fun vs H Q E q => ?_) fun A outer s H vs Q E hr q => ?_
    · obtain ⟨a, v, rfl, _⟩ := q
      rfl
    · obtain ⟨b, v, rfl, hb1, q⟩ := q
      rw [body]
      have vis : ∀ {y : Str}, visB (defScope D.st) y = true → Vis (defScope D.st) y := fun {y} hv => by
        unfold visB at hv
        unfold Vis
        split at hv <;> simp_all
      obtain ⟨a1, a2⟩ := plain_dbg h3
      obtain ⟨b1, b2⟩ := plain_dbg h4
      obtain ⟨pl, hc⟩ := hc (cxOf CX P w pg.K pg.mg base [D.sf, D.pr] D.qn (defScope D.st) fI cdv A outer s H E).env
      refine ⟨_, pss_cons (ps_expr (pe_ini (X := cxOf CX P w pg.K pg.mg base [D.sf, D.pr] D.qn (defScope D.st) fI cdv A outer s H E) xB hs hmb vV (pa_cons (pe_var (i := 0) rfl (vis h1) a1 a2) (pa_cons pe_str pa_nil)) hc rfl rfl) rfl)
        (pss_one (ps_put xB hb (pe_var (i := 0) rfl (vis h1) a1 a2) (pe_var (i := 1) rfl (vis h2) b1 b2) rfl)), ?_⟩
      exact ⟨.ref b, rfl, b, C, _, rfl, by show 1 ≤ 1000; omega, T, hb1, v, rfl, .ref b, rfl, b, C, rfl, T, nf, hb1, q⟩
  refine ⟨fun X x p pos e e1 e2 e3 e4 e5 hr hx hg hm hdb hse => ?_, xfB_ok xf, nf⟩
  refine pmk_v (k := 1) (fI := fI) (fd := PySem.W.fnOf "__init__" D.qn (defArgs D.st) (defBody D.st) (defScope D.st) .none kV doc pm an cdv ct) (ps := [D.sf, D.pr]) xB (by rw [e3]; exact T) (by rw [e3]; exact iC) (by rw [e3]; exact tI) (by rw [e3, e4]; exact F1) hr (.all fun us hl => bd kV doc pm an cdv ct us hl) hx hg hm hdb hse
end Mi
/-! Mi: what stands in the written part. -/
namespace Mi
open PySem PySem.Spec PyProof.Rows L2

structure DefE where
  x : Str
  y : Str
  st : Stmt
  F : Fd
  N : List Str
  ps : List Str
def fnT (l : List DefE) (i : Nat) : Option Str := (l[i]?).map (·.x)
def ΦT (l : List DefE) (i : Nat) : Option Fd := (l[i]?).map (·.F)
def pzT (l : List DefE) (i : Nat) : List Str := ((l[i]?).map (·.ps)).getD []
def glT (l : List (Str × PyData)) (i : Nat) : Option Str := (l[i]?).map (·.1)
def GT (l : List (Str × PyData)) (i : Nat) : Option PyData := (l[i]?).map (·.2)
theorem allN {p : DefE → Prop} : ∀ D ∈ ([] : List DefE), p D := fun _ m => (List.not_mem_nil m).elim
theorem allC {p : DefE → Prop} {a : DefE} {l : List DefE} (h : p a) (r : ∀ D ∈ l, p D) : ∀ D ∈ a :: l, p D := fun D m => (List.mem_cons.mp m).elim (fun e => e ▸ h) (r D)
/-- a statement of a class's body -/
def inCls (s : Stmt) (i : Nat) : Stmt := match s with
  | .ClassDef _ _ _ body _ _ _ _ _ _ _ => body.getD i (.Pass ⟨0, 0, 0, 0⟩)
  | s => s
/-- a def's own text -/
structure DefC (tb : Tb) (D : DefE) : Prop where
  ok : DefOk tb D.st D.F D.N D.ps
/-- how its arguments bind -/
def BdN (D : DefE) : Prop := ∀ (kV doc pm : Value) (an : Option Addr) (cdv ct : Value) (us : List Value), us.length = D.ps.length → bindArgs (PySem.W.fnOf D.y D.y (defArgs D.st) (defBody D.st) (defScope D.st) .none kV doc pm an cdv ct) ⟨us, []⟩ = pure (D.ps.zip us)
/-- .. where defaults stand: all written, or none of them -/
structure BdD (D : DefE) : Prop where
  all : ∀ (T : Addr) (kV doc pm : Value) (an : Option Addr) (cdv ct : Value) (us its : List Value), us.length = D.ps.length → its.length = D.F.df.length →
    ∃ k, bindArgs (PySem.W.fnOf D.y D.y (defArgs D.st) (defBody D.st) (defScope D.st) (.ref T) kV doc pm an cdv ct) ⟨us, []⟩ = seqItems? (.ref T) >>= k ∧ k (some its.toArray) = pure (D.ps.zip us)
  few : ∀ (T : Addr) (kV doc pm : Value) (an : Option Addr) (cdv ct : Value) (us its : List Value), us.length + D.F.df.length = D.ps.length → its.length = D.F.df.length →
    ∃ k, bindArgs (PySem.W.fnOf D.y D.y (defArgs D.st) (defBody D.st) (defScope D.st) (.ref T) kV doc pm an cdv ct) ⟨us, []⟩ = seqItems? (.ref T) >>= k ∧ k (some its.toArray) = pure (D.ps.zip (us ++ its))
structure DK (K : PySem.W.Frag) (D : DefE) : Prop where
  ex : ∃ (f : Addr) (fd : FuncData), PySem.W.nsIn K mainGlobals D.x = some (some (.ref f)) ∧ FnD K D.y D.st f fd ∧ Binds K fd D.ps [] ∧ ∃ us0 vs0, Binds K fd D.ps us0 ∧ Vals vs0 us0 ∧ RpL K (fun _ => none) D.F.df vs0
theorem DK.of {K : PySem.W.Frag} {D : DefE} {f : Addr} {oc kV doc pm cdv ct : Value} {od an : Option Addr} {osl : Array (Option Value)} (hdf : D.F.df = []) (bd : BdN D) (a : PySem.W.nsIn K mainGlobals D.x = some (some (.ref f)))
    (l : K.lookup f = some ⟨oc, od, .func (PySem.W.fnOf D.y D.y (defArgs D.st) (defBody D.st) (defScope D.st) .none kV doc pm an cdv ct), osl⟩) (c : PySem.W.codeIn K cdv D.y = true) (k : PySem.W.keepIn K (.ref f) = true) : DK K D :=
  have b : Binds K (PySem.W.fnOf D.y D.y (defArgs D.st) (defBody D.st) (defScope D.st) .none kV doc pm an cdv ct) D.ps [] := .all (bd kV doc pm an cdv ct)
  ⟨f, _, a, ⟨⟨oc, od, .none, kV, doc, pm, an, cdv, ct, osl, rfl, l, c⟩, k⟩, b, [], [], b, .nil, by rw [hdf]; exact RpL.nil⟩
mutual
def relB (K : PySem.W.Frag) : PyData → Value → Bool
  | .none, .none => true
  | .bool a, .bool b => a == b
  | .int a, .int b _ => a == b
  | .str a, .str b _ => a == b
  | .tuple xs, .ref a => (match K.lookup a with
    | some ⟨.type t, _, .seq its _, _⟩ => decide (t = "tuple") && decide (its.size ≤ 1000) && relBs K xs its.toList
    | _ => false)
  | _, _ => false
def relBs (K : PySem.W.Frag) : List PyData → List Value → Bool
  | [], [] => true
  | x :: xs, v :: vs => relB K x v && relBs K xs vs
  | _, _ => false
end
mutual
theorem relB_ok {K : PySem.W.Frag} : ∀ (d : PyData) (u : Value), relB K d u = true → ∃ v, RelV v u ∧ Rp K (fun _ => none) d v
  | .none, u, h => by
    cases u <;> simp only [relB] at h <;> first | exact ⟨.non, rfl, by simp only [Rp]⟩ | cases h
  | .bool b, u, h => by
    cases u <;> simp only [relB] at h <;> first | (cases eq_of_beq h; exact ⟨.bl b, rfl, by simp only [Rp]⟩) | cases h
  | .int i, u, h => by
    cases u <;> simp only [relB] at h <;> first | (cases eq_of_beq h; exact ⟨.int i, ⟨_, rfl⟩, by simp only [Rp]⟩) | cases h
  | .str x, u, h => by
    cases u <;> simp only [relB] at h <;> first | (cases eq_of_beq h; exact ⟨.str x, ⟨_, rfl⟩, by simp only [Rp]⟩) | cases h
  | .list xs, u, h => by cases u <;> simp only [relB] at h <;> cases h
  | .dict xs, u, h => by cases u <;> simp only [relB] at h <;> cases h
  | .tuple xs, u, h => by
    cases u <;> simp only [relB] at h <;> try cases h
    rename_i a
    split at h
    · rename_i t _ its nn _ hk
      simp only [Bool.and_eq_true] at h
      obtain ⟨⟨h1, h2⟩, h3⟩ := h
      obtain ⟨vs, r1, r2⟩ := relBs_ok xs its.toList h3
      refine ⟨.ref a, rfl, ?_⟩
      simp only [Rp]
      exact ⟨a, vs, rfl, .inr ⟨_, its, nn, hk, by rw [of_decide_eq_true h1], rfl, Nat.le_of_lt (small1000 (of_decide_eq_true h2)), r1⟩, r2⟩
    · cases h
theorem relBs_ok {K : PySem.W.Frag} : ∀ (ds : List PyData) (us : List Value), relBs K ds us = true → ∃ vs, Vals vs us ∧ RpL K (fun _ => none) ds vs
  | [], us, h => by
    cases us with
    | nil => exact ⟨[], .nil, RpL.nil⟩
    | cons _ _ => simp [relBs] at h
  | x :: xs, us, h => by
    cases us with
    | nil => simp [relBs] at h
    | cons u us =>
      simp only [relBs, Bool.and_eq_true] at h
      obtain ⟨v, r1, r2⟩ := relB_ok x u h.1
      obtain ⟨vs, r3, r4⟩ := relBs_ok xs us h.2
      exact ⟨v :: vs, .cons r1 r3, RpL.cons r2 r4⟩
end
theorem DK.ofD {K : PySem.W.Frag} {D : DefE} {f T : Addr} {o : Obj} {its : List Value} {m : Nat} {oc kV doc pm cdv ct : Value} {od an : Option Addr} {osl : Array (Option Value)} (bd : BdD D) (a : PySem.W.nsIn K mainGlobals D.x = some (some (.ref f)))
    (l : K.lookup f = some ⟨oc, od, .func (PySem.W.fnOf D.y D.y (defArgs D.st) (defBody D.st) (defScope D.st) (.ref T) kV doc pm an cdv ct), osl⟩) (c : PySem.W.codeIn K cdv D.y = true) (k : PySem.W.keepIn K (.ref f) = true)
    (lT : K.lookup T = some o) (oT : o.data = .seq its.toArray m) (rl : relBs K D.F.df its = true) : DK K D := by
  obtain ⟨vs0, r1, r2⟩ := relBs_ok _ _ rl
  have hi : its.length = D.F.df.length := by rw [← r1.length, r2.length]
  refine ⟨f, _, a, ⟨⟨oc, od, .ref T, kV, doc, pm, an, cdv, ct, osl, rfl, l, c⟩, k⟩, fun s us X hl => ?_, its, vs0, fun s us X hl => ?_, r1, r2⟩
  · rw [List.append_nil] at hl ⊢
    obtain ⟨q, e1, e2⟩ := bd.all T kV doc pm an cdv ct us its hl hi
    refine BindsTo.of_looks fun M => ?_
    rw [e1]
    exact looks_items X lT oT (.of_pure e2)
  · obtain ⟨q, e1, e2⟩ := bd.few T kV doc pm an cdv ct us its (by rw [← hi, ← List.length_append]; exact hl) hi
    refine BindsTo.of_looks fun M => ?_
    rw [e1]
    exact looks_items X lT oT (.of_pure e2)
def gB (K : PySem.W.Frag) (p : Str × PyData) : Bool := match PySem.W.nsIn K mainGlobals p.1 with
  | some (some v) => relB K p.2 v
  | _ => false
def zB (K : PySem.W.Frag) (x : Str) : Bool := match PySem.W.nsIn K mainGlobals x with
  | some none => true
  | _ => false
theorem prOk {P : Program} {w : World} {K : PySem.W.Frag} {mg : Str → Option Value} {base h : Heap} {cl : Nat → Option Addr} {fld : Nat → Option Str} {ds : List DefE} {gs : List (Str × PyData)} {tb : Tb} (X : K.In h) (N : h.Ns mainGlobals mg) (hfn : tb.fn = fnT ds) (hgl : tb.gl = glT gs) (ct : ClsT ⟨P, w, K, mg, base, cl, fld⟩ tb)
    (hd : ∀ D ∈ ds, DefC tb D) (hk : ∀ D ∈ ds, DK K D) (hg : gs.all (gB K) = true) (hz : bNames.all (zB K) = true) : PrOk ⟨P, w, K, mg, base, cl, fld⟩ tb (ΦT ds) (GT gs) (pzT ds) := by
  refine ⟨fun i x e => ?_, fun i x e d eg => ?_, fun x hx => ?_, ct⟩
  · rw [hfn] at e
    have e : (ds[i]?).map (·.x) = some x := e
    cases q : ds[i]? with
    | none => rw [q] at e; cases e
    | some D =>
      rw [q] at e; cases e
      have m := List.mem_of_getElem? q
      obtain ⟨f, fd, a, Fu, b, us0, vs0, b0, r1, r2⟩ := (hk D m).ex
      have C := hd D m
      exact ⟨f, fd, D.ps, PySem.W.mg_of X N a, ⟨D.F, D.st, D.N, D.y, by rw [ΦT, q]; rfl, C.ok, Fu, b, us0, vs0, b0, r1, r2⟩, by rw [pzT, q]; rfl⟩
  · rw [hgl] at e
    have e : (gs[i]?).map (·.1) = some x := e
    have eg : (gs[i]?).map (·.2) = some d := eg
    cases q : gs[i]? with
    | none => rw [q] at e; cases e
    | some p =>
      rw [q] at e eg; cases e; cases eg
      have := List.all_eq_true.mp hg p (List.mem_of_getElem? q)
      unfold gB at this
      split at this
      · rename_i v ev
        obtain ⟨v', r1, r2⟩ := relB_ok _ _ this
        exact ⟨v, v', PySem.W.mg_of X N ev, r1, r2⟩
      · cases this
  · have := List.all_eq_true.mp hz x hx
    unfold zB at this
    split at this
    · rename_i ev
      exact PySem.W.mg_none_of X N ev
    · cases this

/-! ### classes -/
def clA (K : PySem.W.Frag) (cs : List Str) (i : Nat) : Option Addr := match cs[i]? with
  | some x => (match PySem.W.nsIn K mainGlobals x with
    | some (some (.ref C)) => some C
    | _ => none)
  | none => none
def bmVE : List Value := [.type "ValueError", .type "Exception", .type "BaseException", .type "object"]
def okXc (K : PySem.W.Frag) (C : Addr) : Bool :=
  (PySem.W.subIn K (.ref C) (.type "BaseException") == some true) && (PySem.W.findIn K (.ref C) "__getattribute__" == some (some (.builtin "BaseException.__getattribute__"))) && (PySem.W.findIn K (.ref C) "__getattr__" == some none) && PySem.W.hasDictIn K C && (PySem.W.findIn K (.ref C) "__class__" == some (some (.builtin "object.__class__"))) &&
  (PySem.W.specialIn K (.builtin "object.__class__") "__get__" == some (some (.builtin "getset_descriptor.__get__"))) && (PySem.W.takesIn K (.builtin "object.__class__") == some true) && (PySem.W.mroIn K C (.type "object") == some true)
def okC (K : PySem.W.Frag) (C : Addr) : Bool :=
  decide (PySem.W.findIn K (.ref C) "__str__" = some (some (.builtin "BaseException.__str__"))) && okXc K C && PySem.W.keepIn K (.ref C) && PySem.W.excIn K C bmVE "ValueError.__new__" && (PySem.W.typeIn K (.ref C) == some (.type "type"))
def okC2 (K : PySem.W.Frag) (C D : Addr) (b : Bool) : Bool := (PySem.W.exmOne K (.ref C) (.ref D) == some b) && (PySem.W.kitOne K (.ref C) (.ref D) == some b)
/-- the sub-table's rows: which classes stand below class i -/
def subT (l : List (List Nat)) (i j : Nat) : Bool := ((l[i]?).getD []).contains j
/-- own names: of classes that take a message, then of those that keep a value -/
def okCs' (K : PySem.W.Frag) (cs : List Str) (vs : List Str) (l : List (List Nat)) : Bool :=
  (List.range (cs ++ vs).length).all fun i => match clA K (cs ++ vs) i with
    | some C => (if i < cs.length then okC K C else okXc K C) && (List.range (cs ++ vs).length).all fun j => match clA K (cs ++ vs) j with
      | some D => okC2 K C D (subT l i j)
      | none => false
    | none => false
theorem beqO {a b : Option Bool} (h : (a == b) = true) : a = b := eq_of_beq h
theorem okXc_ok {K : PySem.W.Frag} {C : Addr} (h : okXc K C = true) : ExcC K C := by
  unfold okXc at h
  simp only [Bool.and_eq_true] at h
  obtain ⟨⟨⟨⟨⟨⟨⟨h3, h5⟩, h6⟩, h7⟩, h8⟩, h9⟩, h10⟩, h11⟩ := h
  exact ⟨eq_of_beq h5, eq_of_beq h6, eq_of_beq h3, h7, eq_of_beq h8, eq_of_beq h9, eq_of_beq h10, eq_of_beq h11⟩
theorem okC_ok {K : PySem.W.Frag} {C : Addr} (h : okC K C = true) : ClsK K C := by
  unfold okC at h
  simp only [Bool.and_eq_true] at h
  obtain ⟨⟨⟨⟨h0, hx⟩, h1⟩, h2⟩, h4⟩ := h
  have x := okXc_ok hx
  exact ⟨h1, h2, x.3, eq_of_beq h4, x, of_decide_eq_true h0, x.3⟩
/-- the classes with all that stand above them; the names that are asked -/
def isTab (l : List (Str × List Str)) (ys : List Str) (x y : Str) : Option Bool := match l.lookup x with
  | some up => if ys.contains y then some (up.contains y) else none
  | none => none
def erT (l : List (Str × List Str)) (x : Str) : Bool := (l.lookup x).isSome
def erB (K : PySem.W.Frag) (x : Str) : Bool := match PySem.W.nsIn K mainGlobals x with
  | some (some (.ref C)) => okXc K C && (PySem.W.clsIn K C).isSome
  | _ => false
def kitB2 (K : PySem.W.Frag) (x y : Str) (b : Bool) : Bool := match PySem.W.nsIn K mainGlobals x with
  | some (some (.ref C)) => (match PySem.W.nsIn K mainGlobals y with
    | some (some (.ref D)) => PySem.W.kitOne K (.ref C) (.ref D) == some b
    | some none => (match bootBuiltins y with
      | some (.type T) => !(y == ("__name__" : Str)) && (PySem.W.kitOne K (.ref C) (.type T) == some b)
      | _ => false)
    | _ => false)
  | _ => false
def okIs (K : PySem.W.Frag) (l : List (Str × List Str)) (ys : List Str) : Bool := l.all fun p => erB K p.1 && ys.all fun y => kitB2 K p.1 y (p.2.contains y)
theorem lookup_mem {l : List (Str × List Str)} {x : Str} {u : List Str} (e : l.lookup x = some u) : (x, u) ∈ l := PySem.mem_of_lookup e
theorem erB_ok {pg : Pg} {h : Heap} {x : Str} (X : pg.K.In h) (N : h.Ns mainGlobals pg.mg) (e : erB pg.K x = true) : ∃ C, ErK pg x C := by
  unfold erB at e
  split at e
  · rename_i C en
    rw [Bool.and_eq_true] at e
    exact ⟨C, en, PySem.W.mg_of X N en, okXc_ok e.1, e.2⟩
  · cases e
theorem kitB2_ok {pg : Pg} {h : Heap} {x y : Str} {b : Bool} (X : pg.K.In h) (N : h.Ns mainGlobals pg.mg) (e : kitB2 pg.K x y b = true) : ∃ C cv, PySem.W.nsIn pg.K mainGlobals x = some (some (.ref C)) ∧ NmC pg y cv ∧ PySem.W.kitOne pg.K (.ref C) cv = some b := by
  unfold kitB2 at e
  split at e
  · rename_i C en
    split at e
    · rename_i D ey
      exact ⟨C, .ref D, en, .inl ⟨D, PySem.W.mg_of X N ey, rfl⟩, eq_of_beq e⟩
    · rename_i ey
      split at e
      · rename_i T eT
        rw [Bool.and_eq_true] at e
        exact ⟨C, .type T, en, .inr ⟨T, PySem.W.mg_none_of X N ey, eT, by simpa using e.1, rfl⟩, eq_of_beq e.2⟩
      · cases e
    · cases e
  · cases e
def vcT (k : Nat) (vs : List (Str × Str)) (i : Nat) : Option (Str × Str) := if i < k then none else vs[i - k]?
def fldT (k : Nat) (vs : List (Str × Str)) (i : Nat) : Option Str := (vcT k vs i).map (·.2)
theorem clsT {P : Program} {w : World} {K : PySem.W.Frag} {mg : Str → Option Value} {base h : Heap} {cs : List Str} {vs : List (Str × Str)} {l : List (List Nat)} {tb : Tb} (X : K.In h) (N : h.Ns mainGlobals mg) (h1 : tb.cs = fun i => cs[i]?) (h2 : tb.sub = subT l) (h3 : tb.nc = (cs ++ vs.map (·.1)).length) (h4 : tb.vc = vcT cs.length vs) {up : List (Str × List Str)} {ys : List Str} (h5 : tb.er = erT up) (h6 : tb.is = isTab up ys) (okI : okIs K up ys = true)
    (ok : okCs' K cs (vs.map (·.1)) l = true) (hv : ∀ p ∈ vs, VcK K p.1 p.2) : ClsT ⟨P, w, K, mg, base, clA K (cs ++ vs.map (·.1)), fldT cs.length vs⟩ tb := by
  have ix : ∀ {i C}, clA K (cs ++ vs.map (·.1)) i = some C → i < (cs ++ vs.map (·.1)).length := fun {i C} e => by
    unfold clA at e
    cases q : (cs ++ vs.map (·.1))[i]? with
    | none => rw [q] at e; cases e
    | some x => exact (List.getElem?_eq_some_iff.mp q).1
  have one : ∀ i C, clA K (cs ++ vs.map (·.1)) i = some C → (i < cs.length → ClsK K C) ∧ ExcC K C ∧ ∀ j D, clA K (cs ++ vs.map (·.1)) j = some D → okC2 K C D (subT l i j) = true := fun i C e => by
    have a := List.all_eq_true.mp ok i (List.mem_range.mpr (ix e))
    rw [e] at a
    simp only [Bool.and_eq_true] at a
    refine ⟨fun hi => ?_, ?_, fun j D ej => ?_⟩
    · have a1 := a.1
      rw [if_pos hi] at a1
      exact okC_ok a1
    · have a1 := a.1
      split at a1
      · exact (okC_ok a1).xc
      · exact okXc_ok a1
    · have b := List.all_eq_true.mp a.2 j (List.mem_range.mpr (ix ej))
      rw [ej] at b
      exact b
  have rowOk : ∀ {x : Str} {u : List Str}, up.lookup x = some u → erB K x = true ∧ ∀ y, ys.contains y = true → kitB2 K x y (u.contains y) = true := fun {x u} e => by
    have q := List.all_eq_true.mp okI (x, u) (lookup_mem e)
    rw [Bool.and_eq_true] at q
    exact ⟨q.1, fun y hy => List.all_eq_true.mp q.2 y (by simpa using hy)⟩
  refine ⟨fun x e => ?_, fun x y b e => ?_, fun i x e => ?_, fun i j C D e1 e2 => ?_, fun i C e => ?_, fun i x f e => ?_⟩
  · rw [h5] at e
    have e : (up.lookup x).isSome = true := e
    obtain ⟨u, eu⟩ := Option.isSome_iff_exists.mp e
    exact erB_ok (pg := ⟨P, w, K, mg, base, clA K (cs ++ vs.map (·.1)), fldT cs.length vs⟩) X N (rowOk eu).1
  · rw [h6] at e
    unfold isTab at e
    split at e
    · rename_i u eu
      split at e
      · rename_i hy
        cases e
        obtain ⟨C, er⟩ := erB_ok (pg := ⟨P, w, K, mg, base, clA K (cs ++ vs.map (·.1)), fldT cs.length vs⟩) X N (rowOk eu).1
        obtain ⟨C', cv, e1, nm, e2⟩ := kitB2_ok (pg := ⟨P, w, K, mg, base, clA K (cs ++ vs.map (·.1)), fldT cs.length vs⟩) X N ((rowOk eu).2 y hy)
        rw [er.ns] at e1
        cases e1
        exact ⟨C, cv, er, nm, e2⟩
      · cases e
    · cases e
  · rw [h1] at e
    have e : cs[i]? = some x := e
    have hi := (List.getElem?_eq_some_iff.mp e).1
    have e' : (cs ++ vs.map (·.1))[i]? = some x := by rw [List.getElem?_append_left hi]; exact e
    have a := List.all_eq_true.mp ok i (List.mem_range.mpr (List.getElem?_eq_some_iff.mp e').1)
    cases q : clA K (cs ++ vs.map (·.1)) i with
    | none => rw [q] at a; cases a
    | some C =>
      refine ⟨C, q, ?_, (one i C q).1 hi⟩
      unfold clA at q
      rw [e'] at q
      dsimp only at q
      split at q
      · rename_i C' en
        cases q
        exact PySem.W.mg_of X N en
      · cases q
  · have b := (one i C e1).2.2 j D e2
    unfold okC2 at b
    rw [Bool.and_eq_true] at b
    rw [h2]
    exact ⟨eq_of_beq b.1, eq_of_beq b.2⟩
  · exact ⟨by rw [h3]; exact ix e, (one i C e).2.1⟩
  · rw [h4] at e
    have e0 := e
    unfold vcT at e
    split at e
    · cases e
    · rename_i hi
      obtain ⟨C, xb, a, z, q⟩ := (hv _ (List.mem_of_getElem? e)).ex
      refine ⟨C, ?_, PySem.W.mg_of X N a, ?_, q _ rfl (PySem.W.mg_none_of X N z)⟩
      · show clA K (cs ++ vs.map (·.1)) i = some C
        unfold clA
        rw [List.getElem?_append_right (by omega), List.getElem?_map, e]
        dsimp only [Option.map_some]
        rw [a]
      · show fldT cs.length vs i = some f
        rw [fldT, e0]
        rfl
theorem vcN {K : PySem.W.Frag} : ∀ p ∈ ([] : List (Str × Str)), VcK K p.1 p.2 := fun _ m => (List.not_mem_nil m).elim
theorem vcC {K : PySem.W.Frag} {a : Str × Str} {l : List (Str × Str)} (h : VcK K a.1 a.2) (r : ∀ p ∈ l, VcK K p.1 p.2) : ∀ p ∈ a :: l, VcK K p.1 p.2 := fun p m => (List.mem_cons.mp m).elim (fun e => e ▸ h) (r p)
end Mi
namespace Tx
open PySem PySem.Spec PyProof.Rows Mi
def top (i : Nat) : Stmt := PySem.Challenge.pw_roomprofile_k99_errors_of_the_package.main.body.getD i (.Pass ⟨0, 0, 0, 0⟩)
/-! 0 _law_pot ['_law_script', '_law_k', '_law_cell', '_law_mixed'] -/
def f0 : Fd := ⟨2, 4, [.asg (.n 2) (.cst (.int 0)), .iff (.cmp .Lt (.var 1) (.bi .len [.var 0])) [.asg (.n 2) (.bin .Mod (.bi .abs [.ix (.var 0) (.var 1)]) (.bin .Pow (.bin .Pow (.cst (.int 10)) (.cst (.int 60))) (.cst (.int 14))))] [], .asg (.n 3) (.bin .Mod (.bin .Pow (.bin .Add (.bin .Add (.bin .Mod (.var 2) (.cst (.int 2147483587))) (.bin .Mult (.cst (.int 6151)) (.var 1))) (.cst (.int 3))) (.cst (.int 5))) (.cst (.int 2305843009213693951))), .ret (.newl (.disp [.bin .Mult (.var 2) (.bi .int [.cmp .GtE (.var 2) (.bin .Pow (.cst (.int 10)) (.cst (.int 18)))]), .var 3, .cst (.int 0)]))], []⟩
def e0 : DefE := ⟨"_law_pot", "_law_pot", top 22, f0, ["_law_script", "_law_k", "_law_cell", "_law_mixed"], ["_law_script", "_law_k"]⟩
/-! 1 _law_take ['_law_pot_here', '_law_many', '_law_one', '_law_other', '_law_found'] -/
def f1 : Fd := ⟨2, 5, [.iff (.cmp .Gt (.ix (.var 0) (.cst (.int 0))) (.cst (.int 0))) [.asg (.n 4) (.bin .Mod (.ix (.var 0) (.cst (.int 0))) (.var 1)), .setix (.var 0) (.cst (.int 0)) (.bin .FloorDiv (.ix (.var 0) (.cst (.int 0))) (.var 1)), .ret (.var 4)] [], .setix (.var 0) (.cst (.int 2)) (.bin .Add (.ix (.var 0) (.cst (.int 2))) (.cst (.int 1))), .asg (.n 2) (.bin .Mod (.bin .Pow (.bin .Add (.ix (.var 0) (.cst (.int 1))) (.bin .Mult (.cst (.int 98317)) (.ix (.var 0) (.cst (.int 2))))) (.cst (.int 3))) (.cst (.int 2305843009213693921))), .asg (.n 3) (.bin .Mod (.bin .Pow (.bin .Add (.bin .Add (.var 2) (.bin .Mod (.ix (.var 0) (.cst (.int 1))) (.cst (.int 65521)))) (.bin .Mult (.cst (.int 37)) (.ix (.var 0) (.cst (.int 2))))) (.cst (.int 5))) (.cst (.int 2305843009213693907))), .ret (.bin .Mod (.bin .FloorDiv (.var 3) (.cst (.int 2048))) (.var 1))], []⟩
def e1 : DefE := ⟨"_law_take", "_law_take", top 23, f1, ["_law_pot_here", "_law_many", "_law_one", "_law_other", "_law_found"], ["_law_pot_here", "_law_many"]⟩
/-! 2 _law_classes ['_law_caught', '_law_found'] -/
def f2 : Fd := ⟨1, 2, [.asg (.n 1) (.ofL (.disp [.ixe (.var 0) "InvalidJob" ["InvalidJob"] ["JobError", "InvalidAddress", "InvalidState", "InvalidRun", "InvalidValleys", "InvalidProfile", "InvalidPlan", "InvalidContext", "InvalidChoice", "InvalidOperation", "InvalidExpression", "InvalidPaper", "ParseError", "InvalidCommand", "UnknownName", "NameConflict", "InvalidNumber", "TooMany", "NotEnough"], .ixe (.var 0) "InvalidAddress" ["InvalidAddress"] ["JobError", "InvalidJob", "InvalidState", "InvalidRun", "InvalidValleys", "InvalidProfile", "InvalidPlan", "InvalidContext", "InvalidChoice", "InvalidOperation", "InvalidExpression", "InvalidPaper", "ParseError", "InvalidCommand", "UnknownName", "NameConflict", "InvalidNumber", "TooMany", "NotEnough"], .ixe (.var 0) "InvalidState" ["InvalidState"] ["JobError", "InvalidJob", "InvalidAddress", "InvalidRun", "InvalidValleys", "InvalidProfile", "InvalidPlan", "InvalidContext", "InvalidChoice", "InvalidOperation", "InvalidExpression", "InvalidPaper", "ParseError", "InvalidCommand", "UnknownName", "NameConflict", "InvalidNumber", "TooMany", "NotEnough"]])), .asg (.n 1) (.bin .Add (.var 1) (.ofL (.disp [.ixe (.var 0) "InvalidRun" ["InvalidRun"] ["JobError", "InvalidJob", "InvalidAddress", "InvalidState", "InvalidValleys", "InvalidProfile", "InvalidPlan", "InvalidContext", "InvalidChoice", "InvalidOperation", "InvalidExpression", "InvalidPaper", "ParseError", "InvalidCommand", "UnknownName", "NameConflict", "InvalidNumber", "TooMany", "NotEnough"], .ixe (.var 0) "InvalidValleys" ["InvalidValleys"] ["JobError", "InvalidJob", "InvalidAddress", "InvalidState", "InvalidRun", "InvalidProfile", "InvalidPlan", "InvalidContext", "InvalidChoice", "InvalidOperation", "InvalidExpression", "InvalidPaper", "ParseError", "InvalidCommand", "UnknownName", "NameConflict", "InvalidNumber", "TooMany", "NotEnough"]]))), .asg (.n 1) (.bin .Add (.var 1) (.ofL (.disp [.ixe (.var 0) "InvalidProfile" ["InvalidProfile"] ["JobError", "InvalidJob", "InvalidAddress", "InvalidState", "InvalidRun", "InvalidValleys", "InvalidPlan", "InvalidContext", "InvalidChoice", "InvalidOperation", "InvalidExpression", "InvalidPaper", "ParseError", "InvalidCommand", "UnknownName", "NameConflict", "InvalidNumber", "TooMany", "NotEnough"], .ixe (.var 0) "InvalidPlan" ["InvalidPlan"] ["JobError", "InvalidJob", "InvalidAddress", "InvalidState", "InvalidRun", "InvalidValleys", "InvalidProfile", "InvalidContext", "InvalidChoice", "InvalidOperation", "InvalidExpression", "InvalidPaper", "ParseError", "InvalidCommand", "UnknownName", "NameConflict", "InvalidNumber", "TooMany", "NotEnough"]]))), .asg (.n 1) (.bin .Add (.var 1) (.ofL (.disp [.ixe (.var 0) "InvalidContext" ["InvalidContext"] ["JobError", "InvalidJob", "InvalidAddress", "InvalidState", "InvalidRun", "InvalidValleys", "InvalidProfile", "InvalidPlan", "InvalidChoice", "InvalidOperation", "InvalidExpression", "InvalidPaper", "ParseError", "InvalidCommand", "UnknownName", "NameConflict", "InvalidNumber", "TooMany", "NotEnough"], .ixe (.var 0) "InvalidChoice" ["InvalidChoice"] ["JobError", "InvalidJob", "InvalidAddress", "InvalidState", "InvalidRun", "InvalidValleys", "InvalidProfile", "InvalidPlan", "InvalidContext", "InvalidOperation", "InvalidExpression", "InvalidPaper", "ParseError", "InvalidCommand", "UnknownName", "NameConflict", "InvalidNumber", "TooMany", "NotEnough"]]))), .asg (.n 1) (.bin .Add (.var 1) (.ofL (.disp [.ixe (.var 0) "InvalidOperation" ["InvalidOperation"] ["JobError", "InvalidJob", "InvalidAddress", "InvalidState", "InvalidRun", "InvalidValleys", "InvalidProfile", "InvalidPlan", "InvalidContext", "InvalidChoice", "InvalidExpression", "InvalidPaper", "ParseError", "InvalidCommand", "UnknownName", "NameConflict", "InvalidNumber", "TooMany", "NotEnough"], .ixe (.var 0) "InvalidExpression" ["InvalidExpression"] ["JobError", "InvalidJob", "InvalidAddress", "InvalidState", "InvalidRun", "InvalidValleys", "InvalidProfile", "InvalidPlan", "InvalidContext", "InvalidChoice", "InvalidOperation", "InvalidPaper", "ParseError", "InvalidCommand", "UnknownName", "NameConflict", "InvalidNumber", "TooMany", "NotEnough"]]))), .asg (.n 1) (.bin .Add (.var 1) (.ofL (.disp [.ixe (.var 0) "InvalidPaper" ["InvalidPaper"] ["JobError", "InvalidJob", "InvalidAddress", "InvalidState", "InvalidRun", "InvalidValleys", "InvalidProfile", "InvalidPlan", "InvalidContext", "InvalidChoice", "InvalidOperation", "InvalidExpression", "ParseError", "InvalidCommand", "UnknownName", "NameConflict", "InvalidNumber", "TooMany", "NotEnough"], .ixe (.var 0) "ParseError" ["ParseError"] ["JobError", "InvalidJob", "InvalidAddress", "InvalidState", "InvalidRun", "InvalidValleys", "InvalidProfile", "InvalidPlan", "InvalidContext", "InvalidChoice", "InvalidOperation", "InvalidExpression", "InvalidPaper", "InvalidCommand", "UnknownName", "NameConflict", "InvalidNumber", "TooMany", "NotEnough"]]))), .ret (.bin .Add (.var 1) (.ofL (.disp [.ixe (.var 0) "InvalidCommand" ["InvalidCommand"] ["JobError", "InvalidJob", "InvalidAddress", "InvalidState", "InvalidRun", "InvalidValleys", "InvalidProfile", "InvalidPlan", "InvalidContext", "InvalidChoice", "InvalidOperation", "InvalidExpression", "InvalidPaper", "ParseError", "UnknownName", "NameConflict", "InvalidNumber", "TooMany", "NotEnough"]])))], []⟩
def e2 : DefE := ⟨"_law_classes", "_law_classes", top 24, f2, ["_law_caught", "_law_found"], ["_law_caught"]⟩
/-! 3 _law_keepers ['_law_caught', '_law_found'] -/
def f3 : Fd := ⟨1, 2, [.asg (.n 1) (.ofL (.disp [.ixe (.var 0) "UnknownName" ["UnknownName"] ["JobError", "InvalidJob", "InvalidAddress", "InvalidState", "InvalidRun", "InvalidValleys", "InvalidProfile", "InvalidPlan", "InvalidContext", "InvalidChoice", "InvalidOperation", "InvalidExpression", "InvalidPaper", "ParseError", "InvalidCommand", "NameConflict", "InvalidNumber", "TooMany", "NotEnough"], .ixe (.var 0) "NameConflict" ["NameConflict"] ["JobError", "InvalidJob", "InvalidAddress", "InvalidState", "InvalidRun", "InvalidValleys", "InvalidProfile", "InvalidPlan", "InvalidContext", "InvalidChoice", "InvalidOperation", "InvalidExpression", "InvalidPaper", "ParseError", "InvalidCommand", "UnknownName", "InvalidNumber", "TooMany", "NotEnough"], .ixe (.var 0) "InvalidNumber" ["InvalidNumber"] ["JobError", "InvalidJob", "InvalidAddress", "InvalidState", "InvalidRun", "InvalidValleys", "InvalidProfile", "InvalidPlan", "InvalidContext", "InvalidChoice", "InvalidOperation", "InvalidExpression", "InvalidPaper", "ParseError", "InvalidCommand", "UnknownName", "NameConflict", "TooMany", "NotEnough"]])), .ret (.bin .Add (.var 1) (.ofL (.disp [.ixe (.var 0) "TooMany" ["TooMany"] ["JobError", "InvalidJob", "InvalidAddress", "InvalidState", "InvalidRun", "InvalidValleys", "InvalidProfile", "InvalidPlan", "InvalidContext", "InvalidChoice", "InvalidOperation", "InvalidExpression", "InvalidPaper", "ParseError", "InvalidCommand", "UnknownName", "NameConflict", "InvalidNumber", "NotEnough"], .ixe (.var 0) "NotEnough" ["NotEnough"] ["JobError", "InvalidJob", "InvalidAddress", "InvalidState", "InvalidRun", "InvalidValleys", "InvalidProfile", "InvalidPlan", "InvalidContext", "InvalidChoice", "InvalidOperation", "InvalidExpression", "InvalidPaper", "ParseError", "InvalidCommand", "UnknownName", "NameConflict", "InvalidNumber", "TooMany"]])))], []⟩
def e3 : DefE := ⟨"_law_keepers", "_law_keepers", top 25, f3, ["_law_caught", "_law_found"], ["_law_caught"]⟩
/-! 4 _law_bases ['_law_caught', '_law_found'] -/
def f4 : Fd := ⟨1, 2, [.asg (.n 1) (.ofL (.disp [.ixe (.var 0) "ValueError" ["JobError", "InvalidJob", "InvalidAddress", "InvalidState", "InvalidRun", "InvalidValleys", "InvalidProfile", "InvalidPlan", "InvalidContext", "InvalidChoice", "InvalidOperation", "InvalidExpression", "InvalidPaper", "ParseError", "InvalidCommand"] ["UnknownName", "NameConflict", "InvalidNumber", "TooMany", "NotEnough"], .ixe (.var 0) "KeyError" ["UnknownName"] ["JobError", "InvalidJob", "InvalidAddress", "InvalidState", "InvalidRun", "InvalidValleys", "InvalidProfile", "InvalidPlan", "InvalidContext", "InvalidChoice", "InvalidOperation", "InvalidExpression", "InvalidPaper", "ParseError", "InvalidCommand", "NameConflict", "InvalidNumber", "TooMany", "NotEnough"], .ixe (.var 0) "IndexError" ["InvalidNumber"] ["JobError", "InvalidJob", "InvalidAddress", "InvalidState", "InvalidRun", "InvalidValleys", "InvalidProfile", "InvalidPlan", "InvalidContext", "InvalidChoice", "InvalidOperation", "InvalidExpression", "InvalidPaper", "ParseError", "InvalidCommand", "UnknownName", "NameConflict", "TooMany", "NotEnough"]])), .asg (.n 1) (.bin .Add (.var 1) (.ofL (.disp [.ixe (.var 0) "LookupError" ["UnknownName", "NameConflict", "InvalidNumber"] ["JobError", "InvalidJob", "InvalidAddress", "InvalidState", "InvalidRun", "InvalidValleys", "InvalidProfile", "InvalidPlan", "InvalidContext", "InvalidChoice", "InvalidOperation", "InvalidExpression", "InvalidPaper", "ParseError", "InvalidCommand", "TooMany", "NotEnough"], .ixe (.var 0) "OverflowError" ["TooMany"] ["JobError", "InvalidJob", "InvalidAddress", "InvalidState", "InvalidRun", "InvalidValleys", "InvalidProfile", "InvalidPlan", "InvalidContext", "InvalidChoice", "InvalidOperation", "InvalidExpression", "InvalidPaper", "ParseError", "InvalidCommand", "UnknownName", "NameConflict", "InvalidNumber", "NotEnough"]]))), .ret (.bin .Add (.var 1) (.ofL (.disp [.ixe (.var 0) "RuntimeError" ["NotEnough"] ["JobError", "InvalidJob", "InvalidAddress", "InvalidState", "InvalidRun", "InvalidValleys", "InvalidProfile", "InvalidPlan", "InvalidContext", "InvalidChoice", "InvalidOperation", "InvalidExpression", "InvalidPaper", "ParseError", "InvalidCommand", "UnknownName", "NameConflict", "InvalidNumber", "TooMany"]])))], []⟩
def e4 : DefE := ⟨"_law_bases", "_law_bases", top 26, f4, ["_law_caught", "_law_found"], ["_law_caught"]⟩
/-! 5 _law_message_right ['_law_words', '_law_some', '_law_plain', '_law_at', '_law_one', '_law_place'] -/
def f5 : Fd := ⟨1, 6, [.asg (.n 1) (.ofL (.disp [.mkm 1 "InvalidJob" (.var 0), .mkm 2 "InvalidAddress" (.var 0), .mkm 3 "InvalidState" (.var 0), .mkm 4 "InvalidRun" (.var 0), .mkm 5 "InvalidValleys" (.var 0)])), .asg (.n 1) (.bin .Add (.var 1) (.ofL (.disp [.mkm 6 "InvalidProfile" (.var 0), .mkm 7 "InvalidPlan" (.var 0), .mkm 8 "InvalidContext" (.var 0), .mkm 9 "InvalidChoice" (.var 0)]))), .asg (.n 1) (.bin .Add (.var 1) (.ofL (.disp [.mkm 10 "InvalidOperation" (.var 0), .mkm 11 "InvalidExpression" (.var 0), .mkm 12 "InvalidPaper" (.var 0), .mkm 13 "ParseError" (.var 0)]))), .for (.t [3, 4]) .enum [.bin .Add (.var 1) (.ofL (.disp [.mkm 14 "InvalidCommand" (.var 0)]))] [.iff (.or [.cmp .NotEq (.call 2 [.var 4]) (.ofL (.comp (.cmp .Eq (.var 5) (.var 3)) (.n 5) .range1 [.cst (.int 14)] [])), .cmp .NotEq (.call 3 [.var 4]) (.bin .Mult (.ofL (.disp [.cst (.bool false)])) (.cst (.int 5)))]) [.ret (.cst (.bool false))] [], .iff (.or [.not (.ixe (.var 4) "JobError" ["JobError", "InvalidJob", "InvalidAddress", "InvalidState", "InvalidRun", "InvalidValleys", "InvalidProfile", "InvalidPlan", "InvalidContext", "InvalidChoice", "InvalidOperation", "InvalidExpression", "InvalidPaper", "ParseError", "InvalidCommand"] ["UnknownName", "NameConflict", "InvalidNumber", "TooMany", "NotEnough"]), .cmp .NotEq (.call 4 [.var 4]) (.bin .Add (.ofL (.disp [.cst (.bool true)])) (.bin .Mult (.ofL (.disp [.cst (.bool false)])) (.cst (.int 5)))), .cmp .NotEq (.bi .str [.var 4]) (.var 0)]) [.ret (.cst (.bool false))] []], .asg (.n 2) (.mkm 0 "JobError" (.var 0)), .ret (.and [.cmp .Eq (.call 2 [.var 2]) (.bin .Mult (.ofL (.disp [.cst (.bool false)])) (.cst (.int 14))), .ixe (.var 2) "ValueError" ["JobError", "InvalidJob", "InvalidAddress", "InvalidState", "InvalidRun", "InvalidValleys", "InvalidProfile", "InvalidPlan", "InvalidContext", "InvalidChoice", "InvalidOperation", "InvalidExpression", "InvalidPaper", "ParseError", "InvalidCommand"] ["UnknownName", "NameConflict", "InvalidNumber", "TooMany", "NotEnough"], .cmp .Eq (.bi .str [.var 2]) (.var 0)])], []⟩
def e5 : DefE := ⟨"_law_message_right", "_law_message_right", top 27, f5, ["_law_words", "_law_some", "_law_plain", "_law_at", "_law_one", "_law_place"], ["_law_words"]⟩
/-! 6 _law_value_right ['_law_name', '_law_number', '_law_kept', '_law_some', '_law_bases_here', '_law_at', '_law_one', '_law_place'] -/
def f6 : Fd := ⟨2, 8, [.asg (.n 2) (.ofL (.disp [.attr (.mkv 15 "UnknownName" "name" (.var 0)) 15 "UnknownName" "name", .attr (.mkv 16 "NameConflict" "name" (.var 0)) 16 "NameConflict" "name", .attr (.mkv 17 "InvalidNumber" "value" (.var 1)) 17 "InvalidNumber" "value", .attr (.mkv 18 "TooMany" "limit" (.var 1)) 18 "TooMany" "limit"])), .iff (.cmp .NotEq (.bi .repr [.bin .Add (.var 2) (.ofL (.disp [.attr (.mkv 19 "NotEnough" "least" (.var 1)) 19 "NotEnough" "least"]))]) (.bi .repr [.bin .Add (.bin .Mult (.ofL (.disp [.var 0])) (.cst (.int 2))) (.bin .Mult (.ofL (.disp [.var 1])) (.cst (.int 3)))])) [.ret (.cst (.bool false))] [], .asg (.n 3) (.ofL (.disp [.mkv 15 "UnknownName" "name" (.var 0), .mkv 16 "NameConflict" "name" (.var 0), .mkv 17 "InvalidNumber" "value" (.var 1), .mkv 18 "TooMany" "limit" (.var 1), .mkv 19 "NotEnough" "least" (.var 1)])), .asg (.n 4) (.ofL (.disp [.ofL (.disp [.cst (.int 1), .cst (.int 3)]), .ofL (.disp [.cst (.int 3)]), .ofL (.disp [.cst (.int 2), .cst (.int 3)]), .ofL (.disp [.cst (.int 4)]), .ofL (.disp [.cst (.int 5)])])), .for (.t [5, 6]) .enum [.var 3] [.iff (.or [.cmp .NotEq (.call 3 [.var 6]) (.ofL (.comp (.cmp .Eq (.var 7) (.var 5)) (.n 7) .range1 [.cst (.int 5)] [])), .cmp .NotEq (.call 2 [.var 6]) (.bin .Mult (.ofL (.disp [.cst (.bool false)])) (.cst (.int 14)))]) [.ret (.cst (.bool false))] [], .iff (.or [.ixe (.var 6) "JobError" ["JobError", "InvalidJob", "InvalidAddress", "InvalidState", "InvalidRun", "InvalidValleys", "InvalidProfile", "InvalidPlan", "InvalidContext", "InvalidChoice", "InvalidOperation", "InvalidExpression", "InvalidPaper", "ParseError", "InvalidCommand"] ["UnknownName", "NameConflict", "InvalidNumber", "TooMany", "NotEnough"], .cmp .NotEq (.call 4 [.var 6]) (.ofL (.comp (.cmp .In (.var 7) (.ix (.var 4) (.var 5))) (.n 7) .range1 [.cst (.int 6)] []))]) [.ret (.cst (.bool false))] []], .ret (.cst (.bool true))], []⟩
def e6 : DefE := ⟨"_law_value_right", "_law_value_right", top 28, f6, ["_law_name", "_law_number", "_law_kept", "_law_some", "_law_bases_here", "_law_at", "_law_one", "_law_place"], ["_law_name", "_law_number"]⟩
/-! 7 law ['_law_script', '_law_k', '_law_pot_here', '_law_words', '_law_number', '_law_name'] -/
def f7 : Fd := ⟨1, 6, [.for (.n 1) .range1 [.bi .max [.cst (.int 1), .bi .min [.cst (.int 8), .bi .len [.var 0]]]] [.asg (.n 2) (.call 0 [.var 0, .var 1]), .asg (.n 3) (.ix (.ofL (.disp [.cst (.str "not a job"), .cst (.str ""), .cst (.str "a"), .cst (.str "seq(5, -3) 0")])) (.call 1 [.var 2, .cst (.int 4)])), .asg (.n 4) (.call 1 [.var 2, .bin .Pow (.cst (.int 10)) (.cst (.int 9))]), .asg (.n 4) (.ix (.ofL (.disp [.var 4, .cst (.int 0), .cst (.int 1), .bin .Pow (.cst (.int 10)) (.cst (.int 30))])) (.call 1 [.var 2, .cst (.int 4)])), .asg (.n 5) (.ix (.ofL (.disp [.cst (.str "name"), .cst (.str "a"), .cst (.str "b"), .cst (.str "job"), .cst (.str "zzzzzzzz"), .cst (.str "step")])) (.call 1 [.var 2, .cst (.int 6)])), .iff (.or [.not (.call 5 [.var 3]), .not (.call 6 [.var 5, .var 4])]) [.ret (.cst (.bool false))] []], .ret (.cst (.bool true))], []⟩
def e7 : DefE := ⟨"law", "law", top 29, f7, ["_law_script", "_law_k", "_law_pot_here", "_law_words", "_law_number", "_law_name"], ["_law_script"]⟩
def ds : List DefE := [e0, e1, e2, e3, e4, e5, e6, e7]
def gs : List (Str × PyData) := []
def csl : List Str := ["JobError", "InvalidJob", "InvalidAddress", "InvalidState", "InvalidRun", "InvalidValleys", "InvalidProfile", "InvalidPlan", "InvalidContext", "InvalidChoice", "InvalidOperation", "InvalidExpression", "InvalidPaper", "ParseError", "InvalidCommand"]
def upl : List (Str × List Str) := [("JobError", ["ValueError", "JobError"]), ("InvalidJob", ["InvalidJob", "ValueError", "JobError"]), ("InvalidAddress", ["InvalidAddress", "ValueError", "JobError"]), ("InvalidState", ["InvalidState", "ValueError", "JobError"]), ("InvalidRun", ["ValueError", "InvalidRun", "JobError"]), ("InvalidValleys", ["ValueError", "InvalidValleys", "JobError"]), ("InvalidProfile", ["ValueError", "InvalidProfile", "JobError"]), ("InvalidPlan", ["ValueError", "InvalidPlan", "JobError"]), ("InvalidContext", ["ValueError", "InvalidContext", "JobError"]), ("InvalidChoice", ["ValueError", "InvalidChoice", "JobError"]), ("InvalidOperation", ["ValueError", "InvalidOperation", "JobError"]), ("InvalidExpression", ["ValueError", "InvalidExpression", "JobError"]), ("InvalidPaper", ["ValueError", "InvalidPaper", "JobError"]), ("ParseError", ["ValueError", "ParseError", "JobError"]), ("InvalidCommand", ["ValueError", "InvalidCommand", "JobError"]), ("UnknownName", ["UnknownName", "KeyError", "LookupError"]), ("NameConflict", ["NameConflict", "LookupError"]), ("InvalidNumber", ["InvalidNumber", "IndexError", "LookupError"]), ("TooMany", ["TooMany", "OverflowError"]), ("NotEnough", ["NotEnough", "RuntimeError"])]
def ysl : List Str := ["InvalidJob", "InvalidAddress", "InvalidState", "UnknownName", "NameConflict", "InvalidNumber", "ValueError", "KeyError", "IndexError", "InvalidRun", "InvalidValleys", "InvalidProfile", "InvalidPlan", "InvalidContext", "InvalidChoice", "InvalidOperation", "InvalidExpression", "InvalidPaper", "ParseError", "InvalidCommand", "TooMany", "NotEnough", "LookupError", "OverflowError", "RuntimeError", "JobError"]
def vsl : List (Str × Str) := [("UnknownName", "name"), ("NameConflict", "name"), ("InvalidNumber", "value"), ("TooMany", "limit"), ("NotEnough", "least")]
def sbl : List (List Nat) := [[0], [0, 1], [0, 2], [0, 3], [0, 4], [0, 5], [0, 6], [0, 7], [0, 8], [0, 9], [0, 10], [0, 11], [0, 12], [0, 13], [0, 14], [15], [16], [17], [18], [19]]
def tb : Tb := ⟨fnT ds, glT gs, fun i => csl[i]?, subT sbl, 20, vcT 15 vsl, erT upl, isTab upl ysl⟩
def v15 : ClsE := ⟨"UnknownName", "name", "KeyError", "UnknownName.__init__", inCls (top 16) 0, "self", "name"⟩
theorem sv15 : L2.FnScope [v15.sf, v15.pr] [v15.sf, v15.pr] (L2.defScope v15.st) := ⟨rfl, rfl, rfl, by decide +kernel, rfl, by decide +kernel, by decide +kernel⟩
theorem bv15 : ∀ (kV doc pm : Value) (an : Option Addr) (cdv ct : Value) (us : List Value), us.length = 2 → bindArgs (PySem.W.fnOf "__init__" v15.qn (L2.defArgs v15.st) (L2.defBody v15.st) (L2.defScope v15.st) .none kV doc pm an cdv ct) ⟨us, []⟩ = pure ([v15.sf, v15.pr].zip us) := fun _ _ _ _ _ _ us hl => match us, hl with | [_, _], _ => rfl
def v16 : ClsE := ⟨"NameConflict", "name", "LookupError", "NameConflict.__init__", inCls (top 17) 0, "self", "name"⟩
theorem sv16 : L2.FnScope [v16.sf, v16.pr] [v16.sf, v16.pr] (L2.defScope v16.st) := ⟨rfl, rfl, rfl, by decide +kernel, rfl, by decide +kernel, by decide +kernel⟩
theorem bv16 : ∀ (kV doc pm : Value) (an : Option Addr) (cdv ct : Value) (us : List Value), us.length = 2 → bindArgs (PySem.W.fnOf "__init__" v16.qn (L2.defArgs v16.st) (L2.defBody v16.st) (L2.defScope v16.st) .none kV doc pm an cdv ct) ⟨us, []⟩ = pure ([v16.sf, v16.pr].zip us) := fun _ _ _ _ _ _ us hl => match us, hl with | [_, _], _ => rfl
def v17 : ClsE := ⟨"InvalidNumber", "value", "IndexError", "InvalidNumber.__init__", inCls (top 18) 0, "self", "value"⟩
theorem sv17 : L2.FnScope [v17.sf, v17.pr] [v17.sf, v17.pr] (L2.defScope v17.st) := ⟨rfl, rfl, rfl, by decide +kernel, rfl, by decide +kernel, by decide +kernel⟩
theorem bv17 : ∀ (kV doc pm : Value) (an : Option Addr) (cdv ct : Value) (us : List Value), us.length = 2 → bindArgs (PySem.W.fnOf "__init__" v17.qn (L2.defArgs v17.st) (L2.defBody v17.st) (L2.defScope v17.st) .none kV doc pm an cdv ct) ⟨us, []⟩ = pure ([v17.sf, v17.pr].zip us) := fun _ _ _ _ _ _ us hl => match us, hl with | [_, _], _ => rfl
def v18 : ClsE := ⟨"TooMany", "limit", "OverflowError", "TooMany.__init__", inCls (top 19) 0, "self", "limit"⟩
theorem sv18 : L2.FnScope [v18.sf, v18.pr] [v18.sf, v18.pr] (L2.defScope v18.st) := ⟨rfl, rfl, rfl, by decide +kernel, rfl, by decide +kernel, by decide +kernel⟩
theorem bv18 : ∀ (kV doc pm : Value) (an : Option Addr) (cdv ct : Value) (us : List Value), us.length = 2 → bindArgs (PySem.W.fnOf "__init__" v18.qn (L2.defArgs v18.st) (L2.defBody v18.st) (L2.defScope v18.st) .none kV doc pm an cdv ct) ⟨us, []⟩ = pure ([v18.sf, v18.pr].zip us) := fun _ _ _ _ _ _ us hl => match us, hl with | [_, _], _ => rfl
def v19 : ClsE := ⟨"NotEnough", "least", "RuntimeError", "NotEnough.__init__", inCls (top 20) 0, "self", "least"⟩
theorem sv19 : L2.FnScope [v19.sf, v19.pr] [v19.sf, v19.pr] (L2.defScope v19.st) := ⟨rfl, rfl, rfl, by decide +kernel, rfl, by decide +kernel, by decide +kernel⟩
theorem bv19 : ∀ (kV doc pm : Value) (an : Option Addr) (cdv ct : Value) (us : List Value), us.length = 2 → bindArgs (PySem.W.fnOf "__init__" v19.qn (L2.defArgs v19.st) (L2.defBody v19.st) (L2.defScope v19.st) .none kV doc pm an cdv ct) ⟨us, []⟩ = pure ([v19.sf, v19.pr].zip us) := fun _ _ _ _ _ _ us hl => match us, hl with | [_, _], _ => rfl
theorem c0 : DefC tb e0 := ⟨⟨⟨rfl, rfl, rfl, by decide +kernel, rfl, by decide +kernel, by decide +kernel⟩, rfl, rfl, by decide +kernel⟩⟩
theorem b0 : BdN e0 := fun _ _ _ _ _ _ us hl => match us, hl with | [_, _], _ => rfl
theorem c1 : DefC tb e1 := ⟨⟨⟨rfl, rfl, rfl, by decide +kernel, rfl, by decide +kernel, by decide +kernel⟩, rfl, rfl, by decide +kernel⟩⟩
theorem b1 : BdN e1 := fun _ _ _ _ _ _ us hl => match us, hl with | [_, _], _ => rfl
theorem c2 : DefC tb e2 := ⟨⟨⟨rfl, rfl, rfl, by decide +kernel, rfl, by decide +kernel, by decide +kernel⟩, rfl, rfl, by decide +kernel⟩⟩
theorem b2 : BdN e2 := fun _ _ _ _ _ _ us hl => match us, hl with | [_], _ => rfl
theorem c3 : DefC tb e3 := ⟨⟨⟨rfl, rfl, rfl, by decide +kernel, rfl, by decide +kernel, by decide +kernel⟩, rfl, rfl, by decide +kernel⟩⟩
theorem b3 : BdN e3 := fun _ _ _ _ _ _ us hl => match us, hl with | [_], _ => rfl
theorem c4 : DefC tb e4 := ⟨⟨⟨rfl, rfl, rfl, by decide +kernel, rfl, by decide +kernel, by decide +kernel⟩, rfl, rfl, by decide +kernel⟩⟩
theorem b4 : BdN e4 := fun _ _ _ _ _ _ us hl => match us, hl with | [_], _ => rfl
theorem c5 : DefC tb e5 := ⟨⟨⟨rfl, rfl, rfl, by decide +kernel, rfl, by decide +kernel, by decide +kernel⟩, rfl, rfl, by decide +kernel⟩⟩
theorem b5 : BdN e5 := fun _ _ _ _ _ _ us hl => match us, hl with | [_], _ => rfl
theorem c6 : DefC tb e6 := ⟨⟨⟨rfl, rfl, rfl, by decide +kernel, rfl, by decide +kernel, by decide +kernel⟩, rfl, rfl, by decide +kernel⟩⟩
theorem b6 : BdN e6 := fun _ _ _ _ _ _ us hl => match us, hl with | [_, _], _ => rfl
theorem c7 : DefC tb e7 := ⟨⟨⟨rfl, rfl, rfl, by decide +kernel, rfl, by decide +kernel, by decide +kernel⟩, rfl, rfl, by decide +kernel⟩⟩
theorem b7 : BdN e7 := fun _ _ _ _ _ _ us hl => match us, hl with | [_], _ => rfl
theorem defC : ∀ D ∈ ds, DefC tb D := allC c0 <| allC c1 <| allC c2 <| allC c3 <| allC c4 <| allC c5 <| allC c6 <| allC c7 <| allN
theorem defK {K : PySem.W.Frag} (d0 : DK K e0) (d1 : DK K e1) (d2 : DK K e2) (d3 : DK K e3) (d4 : DK K e4) (d5 : DK K e5) (d6 : DK K e6) (d7 : DK K e7) : ∀ D ∈ ds, DK K D := allC (p := fun D => DK K D) d0 <| allC (p := fun D => DK K D) d1 <| allC (p := fun D => DK K D) d2 <| allC (p := fun D => DK K D) d3 <| allC (p := fun D => DK K D) d4 <| allC (p := fun D => DK K D) d5 <| allC (p := fun D => DK K D) d6 <| allC (p := fun D => DK K D) d7 <| allN
end Tx
/-! Mi: running the reader by hand. -/
namespace Mi
open PySem
def fin (r : R Out) : R Vl := r.bind fun o h1 => match o with
  | .rt v => .ok v h1
  | .nx _ => .ok (.d .none) h1
  | _ => .no
section
variable {Φ : Nat → Option Fd} {G : Nat → Option PyData} {W k i : Nat} {xs : List Vl} {h : Sh} {F : Fd} {C : Cf} {env : En} {α β : Type}
theorem call_at (e : Φ i = some F) (l : xs.length = F.ps) : callF Φ G W (k + 1) i xs h = fin (evSs (callF Φ G W k) G W F.body (startE F.n xs) h) := by
  rw [callF, e]
  dsimp only
  rw [if_pos l]
  rfl
theorem b_ok {a : α} {f : α → Sh → R β} : (R.ok a h).bind f = f a h := rfl
theorem b_ex {x : Er} {f : α → Sh → R β} : (R.ex x h : R α).bind f = .ex x h := rfl
theorem b_no {f : α → Sh → R β} : (R.no : R α).bind f = .no := rfl
theorem t_ok {x : Vl} : tru (.ok x h) = match truV x with
  | some b => .ok b h
  | none => .no := rfl
theorem t_bl {b : Bool} : tru (.ok (.d (.bool b)) h) = .ok b h := rfl
theorem l_some {x : PyData} : lift (some x) h = .ok (.d x) h := rfl
theorem fin_rt {v : Vl} : fin (.ok (.rt v) h) = .ok v h := rfl
theorem fin_nx {e : En} : fin (.ok (.nx e) h) = .ok (.d .none) h := rfl
theorem fin_ex {e : Er} : fin (.ex e h) = .ex e h := rfl
/-- an if, by its test -/
theorem s_if {t : Te} {a b r : List Ts} {v : Bool} {h1 : Sh} (e : tru (evE C G t env h) = .ok v h1) : evSs C G W (.iff t a b :: r) env h = (if v then evSs C G W a env h1 else evSs C G W b env h1).bind fun o h2 => match o with
    | .nx e => evSs C G W r e h2
    | o => .ok o h2 := by
  rw [evSs, evS, e]
  rfl
theorem s_ifT {t : Te} {a b r : List Ts} {h1 : Sh} {v : Vl} {h2 : Sh} (e : tru (evE C G t env h) = .ok true h1) (q : evSs C G W a env h1 = .ok (.rt v) h2) : evSs C G W (.iff t a b :: r) env h = .ok (.rt v) h2 := by
  rw [s_if e, if_pos rfl, q]; rfl
theorem s_ifX {t : Te} {a b r : List Ts} {h1 : Sh} {x : Er} {h2 : Sh} (e : tru (evE C G t env h) = .ok true h1) (q : evSs C G W a env h1 = .ex x h2) : evSs C G W (.iff t a b :: r) env h = .ex x h2 := by
  rw [s_if e, if_pos rfl, q]; rfl
theorem s_ifF {t : Te} {a r : List Ts} {h1 : Sh} (e : tru (evE C G t env h) = .ok false h1) : evSs C G W (.iff t a [] :: r) env h = evSs C G W r env h1 := by
  rw [s_if e, if_neg Bool.false_ne_true]; rfl
theorem s_ifN {t : Te} {a b r : List Ts} {h1 h2 : Sh} {env' : En} (e : tru (evE C G t env h) = .ok true h1) (q : evSs C G W a env h1 = .ok (.nx env') h2) : evSs C G W (.iff t a b :: r) env h = evSs C G W r env' h2 := by
  rw [s_if e, if_pos rfl, q]; rfl
theorem s_ifE {t : Te} {a b r : List Ts} {h1 h2 : Sh} {env' : En} (e : tru (evE C G t env h) = .ok false h1) (q : evSs C G W b env h1 = .ok (.nx env') h2) : evSs C G W (.iff t a b :: r) env h = evSs C G W r env' h2 := by
  rw [s_if e, if_neg Bool.false_ne_true, q]; rfl
theorem s_ret {e : Te} {r : List Ts} {v : Vl} {h1 : Sh} (q : evE C G e env h = .ok v h1) : evSs C G W (.ret e :: r) env h = .ok (.rt v) h1 := by
  rw [evSs, evS, q]; rfl
theorem s_retX {e : Te} {r : List Ts} {x : Er} {h1 : Sh} (q : evE C G e env h = .ex x h1) : evSs C G W (.ret e :: r) env h = .ex x h1 := by
  rw [evSs, evS, q]; rfl
theorem s_asg {tg : Tg} {e : Te} {r : List Ts} {v : Vl} {h1 : Sh} {env' : En} (q : evE C G e env h = .ok v h1) (b : bindTg tg v env = some env') : evSs C G W (.asg tg e :: r) env h = evSs C G W r env' h1 := by
  rw [evSs, evS, q]
  simp only [b_ok, b]
theorem s_own {j : Nat} {l : Tl} {r : List Ts} {v : List PyData} {h1 : Sh} (q : evL C G l env h = .ok v h1) : evSs C G W (.own j l :: r) env h = evSs C G W r (env.set j (.own v)) h1 := by
  rw [evSs, evS, q]; rfl
theorem s_par {is : List Nat} {es : List Tm} {r : List Ts} {v : List Sl} {h1 : Sh} {env' : En} (q : evXs C G es env h = .ok v h1) (b : bindAll is v env = some env') : evSs C G W (.par is es :: r) env h = evSs C G W r env' h1 := by
  rw [evSs, evS, q]
  simp only [b_ok, b]
theorem s_step {s : Ts} {r : List Ts} {h1 : Sh} {env' : En} (q : evS C G W s env h = .ok (.nx env') h1) : evSs C G W (s :: r) env h = evSs C G W r env' h1 := by
  rw [evSs, q]; rfl
theorem s_end {s : Ts} {r : List Ts} {h1 : Sh} {v : Vl} (q : evS C G W s env h = .ok (.rt v) h1) : evSs C G W (s :: r) env h = .ok (.rt v) h1 := by
  rw [evSs, q]; rfl
theorem e_call {f : Nat} {es : List Te} {xs : List Vl} {h1 : Sh} (q : evEs C G es env h = .ok xs h1) : evE C G (.call f es) env h = C f xs h1 := by
  rw [evE, q]; rfl
theorem es_nil : evEs C G [] env h = .ok [] h := by rw [evEs]
theorem es_cons {e : Te} {r : List Te} {x : Vl} {xs : List Vl} {h1 h2 : Sh} (q : evE C G e env h = .ok x h1) (q2 : evEs C G r env h1 = .ok xs h2) : evEs C G (e :: r) env h = .ok (x :: xs) h2 := by
  rw [evEs, q]
  simp only [b_ok, q2]
theorem e_tup {es : List Te} {xs : List Vl} {dd : List PyData} {h1 : Sh} (q : evEs C G es env h = .ok xs h1) (q2 : datL xs = some dd) (l : dd.length ≤ SZ) : evE C G (.tup es) env h = .ok (.d (.tuple dd)) h1 := by
  rw [evE, q]
  simp only [b_ok, q2]
  exact if_pos l
theorem e_disp {es : List Te} {xs : List Vl} {dd : List PyData} {h1 : Sh} (q : evEs C G es env h = .ok xs h1) (q2 : datL xs = some dd) (l : dd.length ≤ SZ) : evE C G (.ofL (.disp es)) env h = .ok (.d (.list dd)) h1 := by
  rw [evE, evL, q]
  simp only [b_ok, q2]
  rw [if_pos l]
  rfl
theorem e_bi {b : BI} {es : List Te} {xs : List Vl} {dd : List PyData} {z : PyData} {h1 : Sh} (q : evEs C G es env h = .ok xs h1) (q2 : datL xs = some dd) (e : biD b dd = some z) : evE C G (.bi b es) env h = .ok (.d z) h1 := by
  rw [evE, q]
  simp only [b_ok, q2, e, l_some]
theorem e_and1 {a : Te} : evE C G (.and [a]) env h = evE C G a env h := by rw [evE, evAnd]
theorem e_or1 {a : Te} : evE C G (.or [a]) env h = evE C G a env h := by rw [evE, evOr]
theorem e_andB {a b : Te} {r : List Te} {v w : Bool} (q : evE C G a env h = .ok (.d (.bool v)) h) (q2 : v = true → evE C G (.and (b :: r)) env h = .ok (.d (.bool w)) h) : evE C G (.and (a :: b :: r)) env h = .ok (.d (.bool (v && w))) h := by
  rw [evE, evAnd_cons2, q]
  cases v with
  | false => rfl
  | true =>
    have := q2 rfl
    rw [evE] at this
    exact this
theorem e_not {e : Te} {v : Bool} {h1 : Sh} (q : tru (evE C G e env h) = .ok v h1) : evE C G (.not e) env h = .ok (.d (.bool (!v))) h1 := by
  rw [evE]
  cases r : evE C G e env h with
  | no => rw [r] at q; cases q
  | ex _ _ => rw [r] at q; cases q
  | ok x h2 =>
    rw [r, t_ok] at q
    cases tv : truV x with
    | none => rw [tv] at q; cases q
    | some b => rw [tv] at q; cases q; simp only [b_ok, tv]
/-- a list made by a comprehension -/
theorem e_comp {elt : Te} {tg : Tg} {kk : It} {es : List Te} {xs : List Vl} {ds ys : List PyData} {h1 h2 : Sh} (q : evEs C G es env h = .ok xs h1) (i : evIt kk xs = some (ds.map .d)) (l : ds.length ≤ SZ) (c : compLoop tg (evC C G []) (evE C G elt) (wipeE tg.names env) (ds.map .d) h1 = .ok ys h2) :
    evE C G (.ofL (.comp elt tg kk es [])) env h = .ok (.d (.list ys)) h2 := by
  rw [evE, evL, q]
  simp only [b_ok, i]
  rw [if_pos (by rw [List.length_map]; exact l), c]
  rfl
theorem l_comp {elt : Te} {tg : Tg} {kk : It} {es : List Te} {xs : List Vl} {ds ys : List PyData} {h1 h2 : Sh} (q : evEs C G es env h = .ok xs h1) (i : evIt kk xs = some (ds.map .d)) (l : ds.length ≤ SZ) (c : compLoop tg (evC C G []) (evE C G elt) (wipeE tg.names env) (ds.map .d) h1 = .ok ys h2) :
    evL C G (.comp elt tg kk es []) env h = .ok ys h2 := by
  rw [evL, q]
  simp only [b_ok, i]
  rw [if_pos (by rw [List.length_map]; exact l)]
  exact c
theorem fin_end {r : R Out} {v : Vl} (q : r = .ok (.rt v) h) : fin r = .ok v h := by rw [q]; rfl
theorem fl_cons {body : En → Sh → R Out} {tg : Tg} {x : Vl} {xs : List Vl} {env' : En} (e : bindTg tg x env = some env') : forLoop body tg (x :: xs) env h = (body env' h).bind fun o h1 => match o with
      | .nx e => forLoop body tg xs e h1
      | .ct e => forLoop body tg xs e h1
      | .bk e => .ok (.nx e) h1
      | .rt v => .ok (.rt v) h1 := by
  rw [forLoop, e]
  all_goals rfl
theorem s_for {tg : Tg} {kk : It} {es : List Te} {body r : List Ts} {xs items : List Vl} {h1 h2 : Sh} {env' : En} (q : evEs C G es env h = .ok xs h1) (i : evIt kk xs = some items) (f : forLoop (evSs C G W body) tg items env h1 = .ok (.nx env') h2) :
    evSs C G W (.for tg kk es body :: r) env h = evSs C G W r env' h2 := by
  rw [evSs, evS, q]
  simp only [b_ok, i, f]
theorem s_forR {tg : Tg} {kk : It} {es : List Te} {body r : List Ts} {xs items : List Vl} {h1 h2 : Sh} {v : Vl} (q : evEs C G es env h = .ok xs h1) (i : evIt kk xs = some items) (f : forLoop (evSs C G W body) tg items env h1 = .ok (.rt v) h2) :
    evSs C G W (.for tg kk es body :: r) env h = .ok (.rt v) h2 := by
  rw [evSs, evS, q]
  simp only [b_ok, i, f]
theorem s_while {t : Te} {body r : List Ts} {h2 : Sh} {env' : En} (f : whLoop (fun e g => tru (evE C G t e g)) (evSs C G W body) W env h = .ok (.nx env') h2) : evSs C G W (.while t body :: r) env h = evSs C G W r env' h2 := by
  rw [evSs, evS, f]
  rfl
theorem s_expr {e : Te} {r : List Ts} {v : Vl} {h1 : Sh} (q : evE C G e env h = .ok v h1) : evSs C G W (.expr e :: r) env h = evSs C G W r env h1 := by
  rw [evSs, evS, q]; rfl
theorem s_exprX {e : Te} {r : List Ts} {x : Er} {h1 : Sh} (q : evE C G e env h = .ex x h1) : evSs C G W (.expr e :: r) env h = .ex x h1 := by
  rw [evSs, evS, q]; rfl
/-- a comprehension without a condition, one value an item, no heap -/
theorem comp_map {tg : Tg} {elt : En → Sh → R Vl} {f : PyData → PyData} : ∀ (xs : List PyData) {h : Sh}, (∀ x ∈ xs, ∃ env', bindTg tg (.d x) env = some env' ∧ elt env' h = .ok (.d (f x)) h) →
    compLoop tg (evC C G []) elt env (xs.map .d) h = .ok (xs.map f) h
  | [], h, _ => rfl
  | x :: xs, h, q => by
    obtain ⟨env', e1, e2⟩ := q x List.mem_cons_self
    have ih := comp_map xs fun y m => q y (List.mem_cons_of_mem _ m)
    have e0 : evC C G [] env' h = .ok true h := by rw [evC]
    rw [List.map_cons, compLoop, e1]
    simp only [e0, noEx, b_ok, if_true, e2, ih, List.map_cons]
/-- .. by pairs -/
theorem comp_zip {tg : Tg} {elt : En → Sh → R Vl} : ∀ (zs : List (PyData × PyData)) {h : Sh}, (∀ z ∈ zs, ∃ env', bindTg tg (.d z.1) env = some env' ∧ elt env' h = .ok (.d z.2) h) →
    compLoop tg (evC C G []) elt env ((zs.map (·.1)).map .d) h = .ok (zs.map (·.2)) h
  | [], h, _ => rfl
  | z :: zs, h, q => by
    obtain ⟨env', e1, e2⟩ := q z List.mem_cons_self
    have ih := comp_zip zs fun y m => q y (List.mem_cons_of_mem _ m)
    have e0 : evC C G [] env' h = .ok true h := by rw [evC]
    rw [List.map_cons, List.map_cons, compLoop, e1]
    simp only [e0, noEx, b_ok, if_true, e2, ih, List.map_cons]
theorem t_cmp {op : CmpOp} {a b : Te} {x y : PyData} {v : Bool} {h1 h2 : Sh} (e1 : evE C G a env h = .ok (.d x) h1) (e2 : evE C G b env h1 = .ok (.d y) h2) (e : cmpD op x y = some v) : tru (evE C G (.cmp op a b) env h) = .ok v h2 := by
  rw [evE, e1]
  simp only [b_ok, e2, e, Option.map, l_some, t_bl]
theorem e_cmp {op : CmpOp} {a b : Te} {x y : PyData} {v : Bool} {h1 h2 : Sh} (e1 : evE C G a env h = .ok (.d x) h1) (e2 : evE C G b env h1 = .ok (.d y) h2) (e : cmpD op x y = some v) : evE C G (.cmp op a b) env h = .ok (.d (.bool v)) h2 := by
  rw [evE, e1]
  simp only [b_ok, e2, e, Option.map, l_some]
theorem e_bin {op : Operator} {a b : Te} {x y z : PyData} {h1 h2 : Sh} (e1 : evE C G a env h = .ok (.d x) h1) (e2 : evE C G b env h1 = .ok (.d y) h2) (e : binD op x y = some z) : evE C G (.bin op a b) env h = .ok (.d z) h2 := by
  rw [evE, e1]
  simp only [b_ok, e2, e, l_some]
theorem t_chain {o1 o2 : CmpOp} {a b d : Te} {x y z : PyData} {v w : Bool} (e1 : evE C G a env h = .ok (.d x) h) (e2 : evE C G b env h = .ok (.d y) h) (e3 : evE C G d env h = .ok (.d z) h) (c1 : cmpD o1 x y = some v) (c2 : cmpD o2 y z = some w) :
    tru (evE C G (.chain o1 o2 a b d) env h) = .ok (v && w) h := by
  rw [evE, e1]
  simp only [b_ok, e2, c1]
  cases v with
  | true => simp only [e3, b_ok, c2, Option.map, l_some, t_bl, Bool.true_and]
  | false => rfl
theorem t_b {e : Te} {v : Bool} {h1 : Sh} (q : evE C G e env h = .ok (.d (.bool v)) h1) : tru (evE C G e env h) = .ok v h1 := by rw [q]; rfl
theorem t_not {e : Te} {v : Bool} {h1 : Sh} (q : tru (evE C G e env h) = .ok v h1) : tru (evE C G (.not e) env h) = .ok (!v) h1 := by
  rw [evE]
  cases r : evE C G e env h with
  | no => rw [r] at q; cases q
  | ex _ _ => rw [r] at q; cases q
  | ok x h2 =>
    rw [r, t_ok] at q
    cases tv : truV x with
    | none => rw [tv] at q; cases q
    | some b => rw [tv] at q; cases q; simp only [b_ok, tv]; rfl
theorem t_nT {e : Te} {h1 : Sh} (q : tru (evE C G e env h) = .ok false h1) : tru (evE C G (.not e) env h) = .ok true h1 := t_not q
theorem t_nF {e : Te} {h1 : Sh} (q : tru (evE C G e env h) = .ok true h1) : tru (evE C G (.not e) env h) = .ok false h1 := t_not q
theorem e_ix {a i : Te} {x z : PyData} {j : Int} {h1 h2 : Sh} (e1 : evE C G a env h = .ok (.d x) h1) (e2 : evE C G i env h1 = .ok (.d (.int j)) h2) (e : ixD x j = some z) : evE C G (.ix a i) env h = .ok (.d z) h2 := by
  rw [evE, e1]
  simp only [b_ok, e2]
  show lift (ixD x j) h2 = _
  rw [e]; rfl
theorem e_glob {g : Nat} {x : PyData} (e : G g = some x) : evE C G (.glob g) env h = .ok (.d x) h := by
  rw [evE, e]; rfl
theorem e_ite {t a b : Te} {v : Bool} {h1 : Sh} (q : tru (evE C G t env h) = .ok v h1) : evE C G (.ite t a b) env h = if v = true then evE C G a env h1 else evE C G b env h1 := by
  rw [evE]
  cases r : evE C G t env h with
  | no => rw [r] at q; cases q
  | ex _ _ => rw [r] at q; cases q
  | ok x h2 =>
    rw [r, t_ok] at q
    cases tv : truV x with
    | none => rw [tv] at q; cases q
    | some b => rw [tv] at q; cases q; simp only [b_ok, tv]; cases v <;> rfl
theorem t_orT {a b : Te} {r : List Te} {h1 : Sh} (q : tru (evE C G a env h) = .ok true h1) : tru (evE C G (.or (a :: b :: r)) env h) = .ok true h1 := by
  rw [evE, evOr_cons2]
  cases e : evE C G a env h with
  | no => rw [e] at q; cases q
  | ex _ _ => rw [e] at q; cases q
  | ok x h2 =>
    rw [e, t_ok] at q
    cases tv : truV x with
    | none => rw [tv] at q; cases q
    | some v => rw [tv] at q; cases q; simp only [b_ok, tv]; exact tru_ok_of tv
theorem t_orF {a b : Te} {r : List Te} {h1 : Sh} (q : tru (evE C G a env h) = .ok false h1) : tru (evE C G (.or (a :: b :: r)) env h) = tru (evE C G (.or (b :: r)) env h1) := by
  rw [evE, evOr_cons2, evE]
  cases e : evE C G a env h with
  | no => rw [e] at q; cases q
  | ex _ _ => rw [e] at q; cases q
  | ok x h2 =>
    rw [e, t_ok] at q
    cases tv : truV x with
    | none => rw [tv] at q; cases q
    | some v => rw [tv] at q; cases q; simp only [b_ok, tv]
theorem t_or1 {a : Te} : tru (evE C G (.or [a]) env h) = tru (evE C G a env h) := by rw [evE, evOr]
theorem t_andF {a b : Te} {r : List Te} {h1 : Sh} (q : tru (evE C G a env h) = .ok false h1) : tru (evE C G (.and (a :: b :: r)) env h) = .ok false h1 := by
  rw [evE, evAnd_cons2]
  cases e : evE C G a env h with
  | no => rw [e] at q; cases q
  | ex _ _ => rw [e] at q; cases q
  | ok x h2 =>
    rw [e, t_ok] at q
    cases tv : truV x with
    | none => rw [tv] at q; cases q
    | some v => rw [tv] at q; cases q; simp only [b_ok, tv]; exact tru_ok_of tv
theorem t_andT {a b : Te} {r : List Te} {h1 : Sh} (q : tru (evE C G a env h) = .ok true h1) : tru (evE C G (.and (a :: b :: r)) env h) = tru (evE C G (.and (b :: r)) env h1) := by
  rw [evE, evAnd_cons2, evE]
  cases e : evE C G a env h with
  | no => rw [e] at q; cases q
  | ex _ _ => rw [e] at q; cases q
  | ok x h2 =>
    rw [e, t_ok] at q
    cases tv : truV x with
    | none => rw [tv] at q; cases q
    | some v => rw [tv] at q; cases q; simp only [b_ok, tv]
theorem t_and1 {a : Te} : tru (evE C G (.and [a]) env h) = tru (evE C G a env h) := by rw [evE, evAnd]
/-- ors of tests that all have a value -/
theorem t_or {a b : Te} {r : List Te} {v w : Bool} (q : tru (evE C G a env h) = .ok v h) (q2 : v = false → tru (evE C G (.or (b :: r)) env h) = .ok w h) : tru (evE C G (.or (a :: b :: r)) env h) = .ok (v || w) h := by
  cases v with
  | true => exact t_orT q
  | false => exact (t_orF q).trans (q2 rfl)
theorem t_and {a b : Te} {r : List Te} {v w : Bool} (q : tru (evE C G a env h) = .ok v h) (q2 : v = true → tru (evE C G (.and (b :: r)) env h) = .ok w h) : tru (evE C G (.and (a :: b :: r)) env h) = .ok (v && w) h := by
  cases v with
  | false => exact t_andF q
  | true => exact (t_andT q).trans (q2 rfl)
end
end Mi
/-! Mi: data operators in closed forms. -/
namespace Mi
open PySem
theorem eqv_str {a b : Str} : PyData.eqv (.str a) (.str b) = decide (a = b) := by
  unfold PyData.eqv
  rw [Bool.eq_iff_iff]
  simp
theorem in_str {w : Str} {ys : List Str} : inD (.str w) (ys.map .str) = some (decide (w ∈ ys)) := by
  have hf : (ys.map PyData.str).all flatD = true := by
    rw [List.all_eq_true]
    intro x m
    obtain ⟨y, _, rfl⟩ := List.mem_map.mp m
    rfl
  unfold inD
  rw [hf]
  show some ((ys.map PyData.str).any fun y => PyData.eqv y (.str w)) = _
  congr 1
  clear hf
  induction ys with
  | nil => rfl
  | cons y ys ih =>
    rw [List.map_cons, List.any_cons, ih, eqv_str]
    by_cases e : y = w
    · subst e
      rw [decide_eq_true rfl, Bool.true_or, decide_eq_true List.mem_cons_self]
    · rw [decide_eq_false e, Bool.false_or]
      by_cases m : w ∈ ys
      · rw [decide_eq_true m, decide_eq_true (List.mem_cons_of_mem _ m)]
      · rw [decide_eq_false m, decide_eq_false fun z => (List.mem_cons.mp z).elim (fun q => e q.symm) m]
theorem eq_str {a b : Str} : eqD (.str a) (.str b) = some (decide (a = b)) := by
  show some _ = _
  rw [eqv_str]
theorem eq_int {a b : Int} : eqD (.int a) (.int b) = some (decide (a = b)) := by
  show some (PyData.eqv _ _) = _
  unfold PyData.eqv
  congr 1
theorem cmp_eq {a b : PyData} : cmpD .Eq a b = eqD a b := rfl
theorem cmp_ne {a b : PyData} : cmpD .NotEq a b = (eqD a b).map (!·) := rfl
theorem cmp_inT {a : PyData} {ys : List PyData} : cmpD .In a (.tuple ys) = inD a ys := rfl
theorem at_k {α : Type} {xs : List α} {k : Nat} {x : α} (e : xs[k]? = some x) : L2.atI xs k = some x := by
  have h := (List.getElem?_eq_some_iff.mp e).1
  unfold L2.atI L2.ixN
  rw [if_pos (by omega), if_pos (by omega)]
  exact e
theorem at_0 {α : Type} {x : α} {xs : List α} : L2.atI (x :: xs) 0 = some x := at_k (k := 0) rfl
theorem at_1 {α : Type} {x y : α} {xs : List α} : L2.atI (x :: y :: xs) 1 = some y := at_k (k := 1) rfl
theorem at_2 {α : Type} {x y z : α} {xs : List α} : L2.atI (x :: y :: z :: xs) 2 = some z := at_k (k := 2) rfl
theorem at_3 {α : Type} {x y z w : α} {xs : List α} : L2.atI (x :: y :: z :: w :: xs) 3 = some w := at_k (k := 3) rfl
theorem at_last {α : Type} {xs : List α} {x : α} : L2.atI (xs ++ [x]) (-1) = some x := by
  unfold L2.atI L2.ixN
  rw [if_neg (by decide), if_pos (by rw [List.length_append, List.length_singleton]; omega), List.length_append, List.length_singleton]
  show (xs ++ [x])[((-1 : Int) + ((xs.length + 1 : Nat) : Int)).toNat]? = some x
  rw [show ((-1 : Int) + ((xs.length + 1 : Nat) : Int)).toNat = xs.length by omega]
  simp
theorem ix_0 {x : PyData} {xs : List PyData} : ixD (.tuple (x :: xs)) 0 = some x := at_0
theorem ix_1 {x y : PyData} {xs : List PyData} : ixD (.tuple (x :: y :: xs)) 1 = some y := at_1
theorem ix_2 {x y z : PyData} {xs : List PyData} : ixD (.tuple (x :: y :: z :: xs)) 2 = some z := at_2
theorem ix_3 {x y z w : PyData} {xs : List PyData} : ixD (.tuple (x :: y :: z :: w :: xs)) 3 = some w := at_3
theorem len_eq {xs : List PyData} {m : Nat} : eqD (.int xs.length) (.int m) = some (decide (xs.length = m)) := by
  rw [eq_int]
  congr 1
  rw [decide_eq_decide]
  exact Int.ofNat_inj
end Mi
namespace Mi
open PySem
/-! what can be shown -/
def Fit (b n : Nat) (d : PyData) : Prop := d.showable = true ∧ d.shown.length ≤ b ∧ d.depth ≤ n
def Fits (b n : Nat) (xs : List PyData) : Prop := PyData.showableAll xs = true ∧ piled (PyData.shownAll xs) ≤ b ∧ PyData.depthAll xs ≤ n
theorem Fit.mono {b n b' n' : Nat} {d : PyData} (f : Fit b n d) (h : b ≤ b') (g : n ≤ n') : Fit b' n' d := ⟨f.1, Nat.le_trans f.2.1 h, Nat.le_trans f.2.2 g⟩
theorem Fits.mono {b n b' n' : Nat} {d : List PyData} (f : Fits b n d) (h : b ≤ b') (g : n ≤ n') : Fits b' n' d := ⟨f.1, Nat.le_trans f.2.1 h, Nat.le_trans f.2.2 g⟩
theorem fits_nil {b n : Nat} : Fits b n [] := ⟨by rw [PyData.showableAll], by rw [PyData.shownAll]; exact Nat.zero_le _, by rw [PyData.depthAll]; exact Nat.zero_le _⟩
theorem fits_cons {b n c : Nat} {x : PyData} {xs : List PyData} (f : Fit b n x) (g : Fits c n xs) : Fits (b + 2 + c) n (x :: xs) := by
  refine ⟨?_, ?_, ?_⟩
  · rw [PyData.showableAll, f.1, g.1]; rfl
  · rw [PyData.shownAll, piled_cons]
    have := f.2.1
    have := g.2.1
    omega
  · rw [PyData.depthAll]
    exact Nat.max_le.mpr ⟨f.2.2, g.2.2⟩
theorem tupT_len (ts : List Str) : (tupleText ts).length ≤ piled ts + 3 := by
  have hl : (tupleText ts).length ≤ 1 + (Str.join ", " ts).length + 2 := by
    unfold tupleText
    rw [strLen_append, strLen_append]
    have : ((if ts.length == 1 then ",)" else ")" : String) : Str).length ≤ 2 := by split <;> decide
    have : (("(" : String) : Str).length = 1 := rfl
    omega
  cases ts with
  | nil =>
    have : (Str.join ", " []).length = 0 := rfl
    omega
  | cons t r =>
    have := join_length_add (t :: r) (by simp)
    omega
theorem lisT_len : ∀ ts : List Str, (listText ts).length ≤ piled ts + 3
  | [] => by decide
  | t :: r => by
    have h := textFrom_length_pos r 1 (("[" : Str) ++ (if (0 : Nat) > 0 then ", " else "" : String) ++ t) (Nat.succ_pos 0)
    have e : ((("[" : Str) ++ (if (0 : Nat) > 0 then ", " else "" : String) ++ t)).length = 1 + t.length := by
      rw [strLen_append, strLen_append]; rfl
    have hX : (listText (t :: r)).length = (textFrom 0 "[" (t :: r)).length + 1 := by
      show (textFrom 0 "[" (t :: r) ++ "]").length = _
      rw [strLen_append]; rfl
    have hY : (textFrom 0 "[" (t :: r)).length = (textFrom 1 (("[" : Str) ++ (if (0 : Nat) > 0 then ", " else "" : String) ++ t) r).length := rfl
    rw [hX, hY, h, e, piled_cons]; omega
theorem fit_tup {b n : Nat} {xs : List PyData} (f : Fits b n xs) : Fit (b + 3) (n + 1) (.tuple xs) := by
  refine ⟨?_, ?_, ?_⟩
  · rw [PyData.showable]; exact f.1
  · rw [PyData.shown]
    have := tupT_len (PyData.shownAll xs)
    have := f.2.1
    omega
  · rw [PyData.depth]
    exact Nat.succ_le_succ f.2.2
theorem fit_list {b n : Nat} {xs : List PyData} (f : Fits b n xs) : Fit (b + 3) (n + 1) (.list xs) := by
  refine ⟨?_, ?_, ?_⟩
  · rw [PyData.showable]; exact f.1
  · rw [PyData.shown]
    have := lisT_len (PyData.shownAll xs)
    have := f.2.1
    omega
  · rw [PyData.depth]
    exact Nat.succ_le_succ f.2.2
theorem fit_int {i : Int} {n : Nat} (h : i.natAbs < 10 ^ 51) : Fit 52 n (.int i) := by
  refine ⟨?_, ?_, ?_⟩
  · rw [PyData.showable]
    refine decide_eq_true ?_
    by_cases z : i.natAbs = 0
    · rw [z]; decide
    · rw [Nat.log2_lt z]
      refine Nat.lt_trans h ?_
      exact Nat.lt_of_lt_of_le (show 10 ^ 51 < 2 ^ 170 by decide) (Nat.pow_le_pow_right (by decide) (by decide))
  · rw [PyData.shown, ofString_length]
    exact int_text_length_le10 (by decide) h
  · rw [PyData.depth]; exact Nat.zero_le _
theorem fit_str {w : Str} {n : Nat} (h : (reprText w).length ≤ 8) : Fit 8 n (.str w) := by
  refine ⟨by rw [PyData.showable], by rw [PyData.shown]; exact h, by rw [PyData.depth]; exact Nat.zero_le _⟩
theorem Fit.ok {b n : Nat} {d : PyData} (ne : noE d = true) (f : Fit b n d) (h : b ≤ SZ) (g : n ≤ 150) : showOk d = true := by
  unfold showOk
  rw [ne, f.1, decide_eq_true (Nat.le_trans f.2.1 h), decide_eq_true (Nat.le_trans f.2.2 g)]
  rfl
theorem fit_strB {w : Str} {b n : Nat} (h : (reprText w).length ≤ b) : Fit b n (.str w) := by
  refine ⟨by rw [PyData.showable], by rw [PyData.shown]; exact h, by rw [PyData.depth]; exact Nat.zero_le _⟩
theorem repr_some {x : PyData} (o : showOk x = true) : biD .repr [x] = some (.str x.shown) := by
  show (if showOk x then some (PyData.str x.shown) else none) = _
  rw [if_pos o]
section
variable {C : Nat → List Vl → Sh → R Vl} {G : Nat → Option PyData} {W : Nat} {env : En} {h h1 h2 : Sh}
theorem xs_nil : evXs C G [] env h = .ok [] h := by rw [evXs]
theorem xs_e {e : Te} {r : List Tm} {x : Vl} {xs : List Sl} (q : evE C G e env h = .ok x h1) (q2 : evXs C G r env h1 = .ok xs h2) : evXs C G (.e e :: r) env h = .ok (.v x :: xs) h2 := by
  rw [evXs, q, b_ok, q2, b_ok]
theorem xs_l {l : Tl} {r : List Tm} {x : List PyData} {xs : List Sl} (q : evL C G l env h = .ok x h1) (q2 : evXs C G r env h1 = .ok xs h2) : evXs C G (.l l :: r) env h = .ok (.own x :: xs) h2 := by
  rw [evXs, q, b_ok, q2, b_ok]
theorem l_disp {es : List Te} {xs : List Vl} {dd : List PyData} (q : evEs C G es env h = .ok xs h1) (q2 : datL xs = some dd) (l : dd.length ≤ SZ) : evL C G (.disp es) env h = .ok dd h1 := by
  rw [evL, q]
  simp only [b_ok, q2]
  exact if_pos l
theorem l_compI {elt : Te} {tg : Tg} {kk : It} {es cs : List Te} {xs items : List Vl} {ys : List PyData} (q : evEs C G es env h = .ok xs h1) (i : evIt kk xs = some items) (l : items.length ≤ SZ) (c : compLoop tg (evC C G cs) (evE C G elt) (wipeE tg.names env) items h1 = .ok ys h2) :
    evL C G (.comp elt tg kk es cs) env h = .ok ys h2 := by
  rw [evL, q, b_ok]
  simp only [i]
  rw [if_pos l]
  exact c
theorem l_cat {a b : Te} {xs ys : List PyData} (q : evE C G a env h = .ok (.d (.list xs)) h1) (q2 : evE C G b env h1 = .ok (.d (.list ys)) h2) (l : xs.length + ys.length ≤ SZ) : evL C G (.cat a b) env h = .ok (xs ++ ys) h2 := by
  rw [evL, q, b_ok, q2, b_ok]
  exact if_pos l
theorem e_ofL {l : Tl} {ys : List PyData} (q : evL C G l env h = .ok ys h1) : evE C G (.ofL l) env h = .ok (.d (.list ys)) h1 := by
  rw [evE, q]; rfl
theorem e_newl {l : Tl} {xs : List PyData} (q : evL C G l env h = .ok xs h1) : evE C G (.newl l) env h = .ok (.ref h1.length) (h1 ++ [.lst xs]) := by
  rw [evE, q]; rfl
theorem comp_nil {tg : Tg} {cond : En → Sh → R Bool} {elt : En → Sh → R Vl} : compLoop tg cond elt env [] h = .ok [] h := by rw [compLoop]
theorem comp_next {tg : Tg} {elt : En → Sh → R Vl} {x : Vl} {xs : List Vl} {env' : En} {y : PyData} {ys : List PyData} (e : bindTg tg x env = some env') (q : elt env' h = .ok (.d y) h1) (q2 : compLoop tg (evC C G []) elt env xs h1 = .ok ys h2) : compLoop tg (evC C G []) elt env (x :: xs) h = .ok (y :: ys) h2 := by
  have e0 : evC C G [] env' h = .ok true h := by rw [evC]
  rw [compLoop, e]
  simp only [e0, noEx, b_ok, if_true, q, q2]
theorem comp_none {tg : Tg} {cond : En → Sh → R Bool} {elt : En → Sh → R Vl} {env : En} : ∀ (xs : List PyData) {h : Sh}, (∀ x ∈ xs, ∃ env', bindTg tg (.d x) env = some env' ∧ cond env' h = .ok false h) → compLoop tg cond elt env (xs.map .d) h = .ok [] h
  | [], h, _ => comp_nil
  | x :: xs, h, q => by
    obtain ⟨env', e1, e2⟩ := q x List.mem_cons_self
    have ih := comp_none (elt := elt) xs fun y m => q y (List.mem_cons_of_mem _ m)
    rw [List.map_cons, compLoop, e1]
    simp only [e2, noEx, b_ok, Bool.false_eq_true, if_false, ih]
theorem e_var {i : Nat} {x : Vl} (e : env[i]? = some (.v x)) : evE C G (.var i) env h = .ok x h := by rw [evE, e]
theorem e_ixR {a i : Te} {n : Nat} {xs : List PyData} {z : PyData} {j : Int} (e1 : evE C G a env h = .ok (.ref n) h) (e2 : evE C G i env h = .ok (.d (.int j)) h) (hn : h[n]? = some (.lst xs)) (e : L2.atI xs j = some z) : evE C G (.ix a i) env h = .ok (.d z) h := by
  rw [evE, e1, b_ok, e2, b_ok, ixV, hn]
  simp only [e]
  rfl
theorem s_setix {r i e : Te} {rest : List Ts} {n : Nat} {xs : List PyData} {v : PyData} {j : Int} {k : Nat} (q : evE C G e env h = .ok (.d v) h) (e1 : evE C G r env h = .ok (.ref n) h) (e2 : evE C G i env h = .ok (.d (.int j)) h) (hn : h[n]? = some (.lst xs)) (hk : L2.ixN xs.length j = some k) :
    evSs C G W (.setix r i e :: rest) env h = evSs C G W rest env (h.set n (.lst (xs.set k v))) := by
  rw [evSs, evS, q, b_ok, e1, b_ok, e2, b_ok]
  simp only [hn, hk]
  rfl
theorem fl_next {body : En → Sh → R Out} {tg : Tg} {x : Vl} {xs : List Vl} {env' e1 : En} {r : R Out} (e : bindTg tg x env = some env') (q : body env' h = .ok (.nx e1) h1) (q2 : forLoop body tg xs e1 h1 = r) : forLoop body tg (x :: xs) env h = r := by
  rw [fl_cons e, q, b_ok]
  exact q2
theorem fl_nil {body : En → Sh → R Out} {tg : Tg} : forLoop body tg [] env h = .ok (.nx env) h := by rw [forLoop]
theorem fl_ret {body : En → Sh → R Out} {tg : Tg} {x : Vl} {xs : List Vl} {env' : En} {v : Vl} (e : bindTg tg x env = some env') (q : body env' h = .ok (.rt v) h1) : forLoop body tg (x :: xs) env h = .ok (.rt v) h1 := by
  rw [fl_cons e, q, b_ok]
theorem ss_nil : evSs C G W [] env h = .ok (.nx env) h := by rw [evSs]
theorem e_slT' {a hi : Te} {x z : PyData} {j : Int} (e1 : evE C G a env h = .ok (.d x) h1) (e2 : evE C G hi env h1 = .ok (.d (.int j)) h2) (e : sliceD x none (some j) = some z) : evE C G (.sliceT a hi) env h = .ok (.d z) h2 := by
  rw [evE, e1, b_ok, e2]
  show lift (sliceD x none (some j)) h2 = _
  rw [e]; rfl
theorem e_slF' {a lo : Te} {x z : PyData} {j : Int} (e1 : evE C G a env h = .ok (.d x) h1) (e2 : evE C G lo env h1 = .ok (.d (.int j)) h2) (e : sliceD x (some j) none = some z) : evE C G (.sliceF a lo) env h = .ok (.d z) h2 := by
  rw [evE, e1, b_ok, e2]
  show lift (sliceD x (some j) none) h2 = _
  rw [e]; rfl
theorem e_slB' {a lo hi : Te} {x z : PyData} {i j : Int} {h3 : Sh} (e1 : evE C G a env h = .ok (.d x) h1) (e2 : evE C G lo env h1 = .ok (.d (.int i)) h2) (e3 : evE C G hi env h2 = .ok (.d (.int j)) h3) (e : sliceD x (some i) (some j) = some z) : evE C G (.sliceB a lo hi) env h = .ok (.d z) h3 := by
  rw [evE, e1, b_ok, e2, b_ok]
  show (evE C G hi env h2).bind _ = _
  rw [e3, b_ok]
  show lift (sliceD x (some i) (some j)) h3 = _
  rw [e]; rfl
theorem e_rev {a : Te} {x z : PyData} (e1 : evE C G a env h = .ok (.d x) h1) (e : revD x = some z) : evE C G (.rev a) env h = .ok (.d z) h1 := by
  rw [evE, e1, b_ok]
  show lift (revD x) h1 = _
  rw [e]; rfl
theorem e_me {m : ME} {a : Te} {es : List Te} {x : Str} {xs : List Vl} {dd : List PyData} {z : PyData} (e1 : evE C G a env h = .ok (.d (.str x)) h1) (q : evEs C G es env h1 = .ok xs h2) (q2 : datL xs = some dd) (e : meD m (.str x) dd = some z) : evE C G (.me m a es) env h = .ok (.d z) h2 := by
  rw [evE, e1, b_ok]
  show (evEs C G es env h1).bind _ = _
  rw [q, b_ok]
  simp only [q2, e, l_some]
theorem s_app {s : Nat} {e : Te} {r : List Ts} {v : PyData} {xs : List PyData} (hs : env[s]? = some (.own xs)) (q : evE C G e env h = .ok (.d v) h1) (l : xs.length < SZ) : evSs C G W (.app s e :: r) env h = evSs C G W r (env.set s (.own (xs ++ [v]))) h1 := by
  refine s_step ?_
  rw [evS, hs]
  simp only [q, b_ok]
  rw [if_pos l]
theorem s_ownix {s : Nat} {i e : Te} {r : List Ts} {v : PyData} {xs : List PyData} {j : Int} {k : Nat} (hs : env[s]? = some (.own xs)) (q : evE C G e env h = .ok (.d v) h1) (q2 : evE C G i env h1 = .ok (.d (.int j)) h2) (hk : L2.ixN xs.length j = some k) : evSs C G W (.ownix s i e :: r) env h = evSs C G W r (env.set s (.own (xs.set k v))) h2 := by
  refine s_step ?_
  rw [evS, hs]
  simp only [q, b_ok, q2, hk]
theorem s_aug {i : Nat} {op : Operator} {e : Te} {r : List Ts} {x y z : PyData} (hs : env[i]? = some (.v (.d x))) (f : flatD x = true) (q : evE C G e env h = .ok (.d y) h1) (b : binD op x y = some z) : evSs C G W (.aug i op e :: r) env h = evSs C G W r (env.set i (.v (.d z))) h1 := by
  refine s_step ?_
  rw [evS, hs]
  simp only [q, b_ok, f, if_true, b]
theorem s_freeze {i : Nat} {r : List Ts} {xs : List PyData} (hs : env[i]? = some (.own xs)) : evSs C G W (.freeze i :: r) env h = evSs C G W r (env.set i (.v (.d (.list xs)))) h := by
  refine s_step ?_
  rw [evS, hs]
/-- a while: k turns, each shown, then the test fails -/
theorem wh_stop {test : En → Sh → R Bool} {body : En → Sh → R Out} {k : Nat} (t : test env h = .ok false h1) : whLoop test body (k + 1) env h = .ok (.nx env) h1 := by
  rw [whLoop, t]; rfl
theorem wh_next {test : En → Sh → R Bool} {body : En → Sh → R Out} {k : Nat} {e1 : En} {r : R Out} (t : test env h = .ok true h1) (q : body env h1 = .ok (.nx e1) h2) (q2 : whLoop test body k e1 h2 = r) : whLoop test body (k + 1) env h = r := by
  rw [whLoop, t, b_ok, if_pos rfl, q, b_ok]
  exact q2
theorem wh_ret {test : En → Sh → R Bool} {body : En → Sh → R Out} {k : Nat} {v : Vl} (t : test env h = .ok true h1) (q : body env h1 = .ok (.rt v) h2) : whLoop test body (k + 1) env h = .ok (.rt v) h2 := by
  rw [whLoop, t, b_ok, if_pos rfl, q, b_ok]
theorem s_whileR {t : Te} {body r : List Ts} {v : Vl} (f : whLoop (fun e g => tru (evE C G t e g)) (evSs C G W body) W env h = .ok (.rt v) h2) : evSs C G W (.while t body :: r) env h = .ok (.rt v) h2 := by
  rw [evSs, evS, f]; rfl
end
end Mi
/-! Mi: texts as lists of their signs. -/
namespace Mi
open PySem PySem.StrLaws
abbrev sg (x : Str) : List Nat := TL.tl x
def sx (l : List Nat) : Str := ⟨l.toArray⟩
theorem sg_sx (l : List Nat) : sg (sx l) = l := rfl
theorem sx_sg (x : Str) : sx (sg x) = x := TL.mk_tl x
theorem sx_len (l : List Nat) : (sx l).length = l.length := by
  show l.toArray.size = _
  rw [List.size_toArray]
theorem sx_inj {a b : List Nat} (h : sx a = sx b) : a = b := congrArg sg h
theorem sx_app (a b : List Nat) : sx a ++ sx b = sx (a ++ b) := TL.ext_tl (by rw [TL.tl_append]; rfl)
theorem eq_sx {a b : List Nat} : eqD (.str (sx a)) (.str (sx b)) = some (decide (a = b)) := by
  rw [eq_str]
  congr 1
  rw [decide_eq_decide]
  exact ⟨sx_inj, fun e => by rw [e]⟩
theorem add_sx {a b : List Nat} (h : a.length + b.length ≤ SZ) : binD .Add (.str (sx a)) (.str (sx b)) = some (.str (sx (a ++ b))) := by
  show (if (sx a).length + (sx b).length ≤ SZ then some (PyData.str (sx a ++ sx b)) else none) = _
  rw [sx_len, sx_len, if_pos h, sx_app]
theorem len_sx {a : List Nat} (h : a.length ≤ SZ) : biD .len [.str (sx a)] = some (.int a.length) := by
  show (if (sx a).length ≤ SZ then some (PyData.int ((sx a).length : Nat)) else none) = _
  rw [sx_len, if_pos h]
theorem in_sx {c : Nat} {b : List Nat} : cmpD .In (.str (sx [c])) (.str (sx b)) = some (decide (c ∈ b)) := rfl
theorem nin_sx {c : Nat} {b : List Nat} : cmpD .NotIn (.str (sx [c])) (.str (sx b)) = some (!decide (c ∈ b)) := rfl
theorem seq_sx {l : List Nat} : evIt .seq [.d (.str (sx l))] = some ((l.map fun c => PyData.str (sx [c])).map .d) := rfl
theorem rev_sx {l : List Nat} (h : l.length ≤ SZ) : revD (.str (sx l)) = some (.str (sx l.reverse)) := by
  show (if (sx l).length ≤ SZ then some (PyData.str (sx l.reverse)) else none) = _
  rw [sx_len, if_pos h]
/-! slices -/
theorem cut_sx (l : List Nat) (lo hi : Option Int) : L2.cutS (sx l) lo hi = sx ((l.drop (HT.sIx l.length 0 lo)).take (HT.sIx l.length l.length hi - HT.sIx l.length 0 lo)) := by
  unfold L2.cutS
  rw [sx_len]
  rfl
theorem sl_any {l : List Nat} {lo hi : Option Int} (h : l.length ≤ SZ) : sliceD (.str (sx l)) lo hi = some (.str (sx ((l.drop (HT.sIx l.length 0 lo)).take (HT.sIx l.length l.length hi - HT.sIx l.length 0 lo)))) := by
  show (if (sx l).length ≤ SZ then some (PyData.str (L2.cutS (sx l) lo hi)) else none) = _
  rw [sx_len, if_pos h, cut_sx]
theorem sl_to {l : List Nat} {k : Nat} (h : l.length ≤ SZ) : sliceD (.str (sx l)) none (some (k : Int)) = some (.str (sx (l.take k))) := by
  rw [sl_any h, HT.sIx_nat, HT.sIx_none, List.drop_zero, Nat.sub_zero]
  congr 3
  rw [List.take_eq_take_iff]
  omega
theorem sl_from {l : List Nat} {k : Nat} (h : l.length ≤ SZ) : sliceD (.str (sx l)) (some (k : Int)) none = some (.str (sx (l.drop k))) := by
  rw [sl_any h, HT.sIx_nat, HT.sIx_none]
  rw [List.take_of_length_le (by rw [List.length_drop]; omega)]
  by_cases c : k ≤ l.length
  · rw [Nat.min_eq_left c]
  · rw [Nat.min_eq_right (by omega), List.drop_length, List.drop_eq_nil_of_le (by omega)]
theorem sl_btw {l : List Nat} {i j : Nat} (h : l.length ≤ SZ) : sliceD (.str (sx l)) (some (i : Int)) (some (j : Int)) = some (.str (sx ((l.drop i).take (j - i)))) := by
  rw [sl_any h, HT.sIx_nat, HT.sIx_nat]
  by_cases c : i ≤ l.length
  · rw [Nat.min_eq_left c]
    have e : (l.drop i).take (min j l.length - i) = (l.drop i).take (j - i) := by
      rw [List.take_eq_take_iff, List.length_drop]
      omega
    rw [e]
  · rw [Nat.min_eq_right (show l.length ≤ i by omega), List.drop_length, List.drop_eq_nil_of_le (show l.length ≤ i by omega), List.take_nil, List.take_nil]
theorem sl_last {l : List Nat} (h : l.length ≤ SZ) : sliceD (.str (sx l)) (some (-1)) none = some (.str (sx (l.drop (l.length - 1)))) := by
  have e : HT.sIx l.length 0 (some (-1)) = l.length - 1 := by
    show (if (-1 : Int) < 0 then ((-1 : Int) + (l.length : Int)).toNat else min (-1 : Int).toNat l.length) = _
    rw [if_pos (by decide)]
    omega
  rw [sl_any h, e, HT.sIx_none]
  rw [List.take_of_length_le (by rw [List.length_drop]; omega)]
theorem sl_init {l : List Nat} (h : l.length ≤ SZ) : sliceD (.str (sx l)) none (some (-1)) = some (.str (sx (l.take (l.length - 1)))) := by
  have e : HT.sIx l.length l.length (some (-1)) = l.length - 1 := by
    show (if (-1 : Int) < 0 then ((-1 : Int) + (l.length : Int)).toNat else min (-1 : Int).toNat l.length) = _
    rw [if_pos (by decide)]
    omega
  rw [sl_any h, e, HT.sIx_none, List.drop_zero, Nat.sub_zero]
theorem ix_sx {l : List Nat} {k c : Nat} (h : l.length ≤ SZ) (e : l[k]? = some c) : ixD (.str (sx l)) (k : Int) = some (.str (sx [c])) := by
  show (if (sx l).length ≤ SZ then (L2.atI l (k : Int)).map (fun c => PyData.str (sx [c])) else none) = _
  rw [sx_len, if_pos h, at_k e]
  rfl
/-! numbers -/
def numI (i : Int) : List Nat := if i < 0 then 45 :: TL.numL i.natAbs else TL.numL i.natAbs
theorem sg_int (i : Int) : sg (Str.ofString (toString i)) = numI i := by
  unfold numI
  cases i with
  | ofNat n =>
    rw [if_neg (by show ¬ ((n : Nat) : Int) < 0; omega)]
    exact TL.tl_num n
  | negSucc m =>
    rw [if_pos (by omega)]
    have e : toString (Int.negSucc m) = "-" ++ Nat.repr (m + 1) := rfl
    have e2 : Nat.repr (m + 1) = toString (((m + 1 : Nat)) : Int) := rfl
    have e3 := TL.tl_num (m + 1)
    show TL.tl _ = _
    rw [TL.tl_ofString] at e3 ⊢
    rw [e, String.toList_append, List.map_append, e2, e3]
    rfl
theorem int_sx (i : Int) : Str.ofString (toString i) = sx (numI i) := TL.ext_tl (sg_int i)
theorem str_sx {i : Int} (h : okS i = true) : biD .str [.int i] = some (.str (sx (numI i))) := by
  show (if okS i then some (PyData.str (Str.ofString (toString i))) else none) = _
  rw [if_pos h, int_sx]
theorem numI_len {i : Int} {k : Nat} (hk : 0 < k) (h : i.natAbs < 10 ^ k) : (numI i).length ≤ k + 1 := by
  unfold numI
  have := TL.numL_len hk h
  split
  · rw [List.length_cons]; omega
  · omega
/-- the value of a written number -/
def valI (l : List Nat) : Int := if l.take 1 = [45] then -((NumText.digitsVal (l.drop 1) : Nat) : Int) else ((NumText.digitsVal l : Nat) : Int)
def dig (c : Nat) : Bool := decide (48 ≤ c) && decide (c ≤ 57)
theorem all_dig {l : List Nat} (h : l.all dig = true) : NumText.AllDigits l := fun c m => by
  have := List.all_eq_true.mp h c m
  unfold dig at this
  rw [Bool.and_eq_true, decide_eq_true_eq, decide_eq_true_eq] at this
  exact this
theorem dig_all {l : List Nat} (h : NumText.AllDigits l) : l.all dig = true := List.all_eq_true.mpr fun c m => by
  have := h c m
  unfold dig
  rw [decide_eq_true this.1, decide_eq_true this.2]; rfl
theorem valI_num (i : Int) : valI (numI i) = i := by
  unfold valI numI
  by_cases c : i < 0
  · rw [if_pos c, if_pos (show (45 :: TL.numL i.natAbs).take 1 = [45] from rfl)]
    show -((NumText.digitsVal (TL.numL i.natAbs) : Nat) : Int) = i
    rw [TL.numL_val]
    omega
  · rw [if_neg c]
    have hd := TL.numL_digits i.natAbs
    have hn := TL.numL_ne i.natAbs
    cases e : TL.numL i.natAbs with
    | nil => exact absurd e hn
    | cons a r =>
      have := hd a (by rw [e]; exact List.mem_cons_self)
      rw [if_neg (by
        intro z
        have : a = 45 := by simpa using z
        omega), ← e, TL.numL_val]
      omega
theorem int_of_sx {l : List Nat} (h : (if l.take 1 = [45] then l.drop 1 else l).all dig = true) (h1 : (if l.take 1 = [45] then l.drop 1 else l) ≠ []) (h2 : l.length ≤ 640) : biD .int [.str (sx l)] = some (.int (valI l)) := by
  have e : intText? (sx l) = some (valI l) := by
    unfold valI
    by_cases c : l.take 1 = [45]
    · rw [if_pos c] at h h1 ⊢
      cases l with
      | nil => cases c
      | cons a r =>
        have ha : a = 45 := by simpa using c
        subst ha
        exact intText_neg (x := sx (45 :: r)) (cs := r) rfl (all_dig h) h1 (by rw [sx_len]; omega)
    · rw [if_neg c] at h h1 ⊢
      exact intText_digits (x := sx l) (all_dig h) h1 (by rw [sx_len]; omega)
  show (if (sx l).length ≤ 640 then (intText? (sx l)).map PyData.int else none) = _
  rw [sx_len, if_pos h2, e]
  rfl
/-! methods -/
def strL (ys : List (List Nat)) : List PyData := ys.map fun l => .str (sx l)
theorem strs_L : ∀ ys : List (List Nat), strsOf (strL ys) = some (ys.map sx)
  | [] => rfl
  | y :: ys => by
    show (strsOf (strL ys)).map (sx y :: ·) = _
    rw [strs_L ys]
    rfl
theorem map_sg (ys : List (List Nat)) : (ys.map sx).map TL.tl = ys := by
  rw [List.map_map]
  induction ys with
  | nil => rfl
  | cons y ys ih =>
    show sg (sx y) :: (ys.map (TL.tl ∘ sx)) = _
    rw [ih]
    rfl
theorem join_sx {s : List Nat} {ys : List (List Nat)} (h : (ys.map (·.length)).sum + ys.length * s.length ≤ SZ) : meD .join (.str (sx s)) [.list (strL ys)] = some (.str (sx (TL.joinL s ys))) := by
  show (strsOf (strL ys)).bind (fun ys => if (ys.map (·.length)).sum + ys.length * (sx s).length ≤ SZ then some (PyData.str (Txt.join (sx s) ys)) else none) = _
  rw [strs_L]
  have e : ((ys.map sx).map (·.length)).sum = (ys.map (·.length)).sum := by
    rw [List.map_map]
    congr 1
  show (if ((ys.map sx).map (·.length)).sum + (ys.map sx).length * (sx s).length ≤ SZ then some (PyData.str (Txt.join (sx s) (ys.map sx))) else none) = _
  rw [e, List.length_map, sx_len, if_pos h]
  congr 2
  refine TL.ext_tl ?_
  rw [TL.join_eq, TL.tl_join, map_sg]
  rfl
theorem split_sx {s l : List Nat} (hs : s ≠ []) (hk : s.all (· < 256) = true) (h : l.length + 2 ≤ SZ) : meD .split (.str (sx l)) [.str (sx s)] = some (.list (strL (TL.spl s 0 [] l))) := by
  show (if ((sx s).length == 0) = false ∧ (sx l).length + 2 ≤ SZ then some (PyData.list ((Txt.split (sx l) (sx s)).map .str)) else none) = _
  rw [sx_len, sx_len, if_pos ⟨by cases s with | nil => exact absurd rfl hs | cons _ _ => rfl, h⟩]
  congr 2
  have e := TL.split_spl (sx l) (sx s) hs (TL.kind_ok (by show s.toArray.all _ = true; rw [List.all_toArray]; exact hk))
  have e2 : Txt.split (sx l) (sx s) = (TL.spl s 0 [] l).map sx := TL.map_tl_inj (by rw [e, map_sg]; rfl)
  rw [e2]
  unfold strL
  rw [List.map_map]
  rfl
theorem part_sx {s l : List Nat} (hs : s ≠ []) (h : l.length ≤ SZ) : meD .partition (.str (sx l)) [.str (sx s)] = some (match TL.par s [] l with
    | some (a, b) => .tuple [.str (sx a), .str (sx s), .str (sx b)]
    | none => .tuple [.str (sx l), .str (sx []), .str (sx [])]) := by
  show (if ((sx s).length == 0) = false ∧ (sx l).length ≤ SZ then some (PyData.tuple [.str (Txt.partition (sx l) (sx s)).1, .str (Txt.partition (sx l) (sx s)).2.1, .str (Txt.partition (sx l) (sx s)).2.2]) else none) = _
  rw [sx_len, sx_len, if_pos ⟨by cases s with | nil => exact absurd rfl hs | cons _ _ => rfl, h⟩, TL.partition_par (sx l) (sx s) hs]
  show some (PyData.tuple [.str (match TL.par s [] l with | some (a, b) => (sx a, sx s, sx b) | none => (sx l, Str.empty, Str.empty)).1, .str (match TL.par s [] l with | some (a, b) => (sx a, sx s, sx b) | none => (sx l, Str.empty, Str.empty)).2.1, .str (match TL.par s [] l with | some (a, b) => (sx a, sx s, sx b) | none => (sx l, Str.empty, Str.empty)).2.2]) = _
  cases TL.par s [] l with
  | none => rfl
  | some p => rfl
theorem spl_count {c : Nat} : ∀ (l acc : List Nat), (TL.spl [c] 0 acc l).length = l.count c + 1
  | [], acc => rfl
  | d :: l, acc => by
    by_cases e : d = c
    · subst e
      have hp : TL.pre [d] (d :: l) = true := TL.pre_self [d] l
      rw [TL.spl_hit hp, List.length_cons]
      show (TL.spl [d] 0 [] l).length + 1 = _
      rw [spl_count l [], List.count_cons_self]
    · rw [TL.spl_miss (TL.pre_of_head _ _ e), spl_count l, List.count_cons_of_ne e]
theorem parts_len (x : Str) (w : Nat) : ∀ (cuts : List Nat) (a : Nat), (partsFrom x w a cuts).length = cuts.length + 1
  | [], a => rfl
  | c :: r, a => by
    show (partsFrom x w _ r).length + 1 = _
    rw [parts_len x w r]; rfl
theorem count_sx {c : Nat} {l : List Nat} : meD .count (.str (sx l)) [.str (sx [c])] = some (.int (l.count c)) := by
  have hy : TL.tl (sx [c]) ≠ [] := by show [c] ≠ []; simp
  obtain ⟨f, g, hn⟩ := occ_tight (sx l) (sx [c]) (TL.len1 hy)
  have key := TL.parts_spl hy _ 0 f (Nat.zero_le _) g hn
  rw [List.drop_zero] at key
  have e := congrArg List.length key
  rw [List.length_map, parts_len] at e
  have e2 : (TL.spl (TL.tl (sx [c])) 0 [] (TL.tl (sx l))).length = l.count c + 1 := spl_count l []
  rw [e2] at e
  show some (PyData.int (Txt.count (sx l) (sx [c]))) = _
  congr 2
  unfold Txt.count
  omega
/-- a call with the defaults -/
theorem call_atD {Φ : Nat → Option Fd} {G : Nat → Option PyData} {W k i : Nat} {xs : List Vl} {h : Sh} {F : Fd} (e : Φ i = some F) (l : xs.length ≠ F.ps) (l2 : xs.length + F.df.length = F.ps) : callF Φ G W (k + 1) i xs h = fin (evSs (callF Φ G W k) G W F.body (startE F.n (xs ++ F.df.map .d)) h) := by
  rw [callF, e]
  dsimp only
  rw [if_neg l, if_pos l2]
  rfl
end Mi
namespace Tx
open PySem Mi
abbrev Cl (k i : Nat) (xs : List Vl) (h : Sh) : R Vl := callF (ΦT ds) (GT gs) 50000 k i xs h
abbrev Cf (K : Nat) : Mi.Cf := callF (ΦT ds) (GT gs) 50000 K
abbrev Ev (K : Nat) := evE (Cf K) (GT gs)
theorem φ0 : ΦT ds 0 = some f0 := rfl
theorem φ1 : ΦT ds 1 = some f1 := rfl
theorem φ5 : ΦT ds 5 = some f5 := rfl
theorem φ6 : ΦT ds 6 = some f6 := rfl
theorem φ7 : ΦT ds 7 = some f7 := rfl
/-- the pot of a case -/
structure P3 where
  a : Int
  b : Int
  c : Int
def pt (s : P3) : Ob := .lst [.int s.a, .int s.b, .int s.c]
def M1 : Int := 2305843009213693921
def M2 : Int := 2305843009213693907
def Bp (N : Nat) (s : P3) : Prop := (0 ≤ s.a ∧ s.a < 10 ^ 900) ∧ (0 ≤ s.b ∧ s.b < 2305843009213693951) ∧ (0 ≤ s.c ∧ s.c ≤ N)
def o1 (s : P3) : Int := (s.b + 98317 * (s.c + 1)) ^ 3 % M1
def o2 (s : P3) : Int := (o1 s + s.b % 65521 + 37 * (s.c + 1)) ^ 5 % M2
def tv (s : P3) (m : Int) : Int := if 0 < s.a then s.a % m else o2 s / 2048 % m
def tn (s : P3) (m : Int) : P3 := if 0 < s.a then ⟨s.a / m, s.b, s.c⟩ else ⟨s.a, s.b, s.c + 1⟩
theorem tv_rg {s : P3} {m : Int} (hm : 1 ≤ m) : 0 ≤ tv s m ∧ tv s m < m := by
  unfold tv
  split
  · exact ⟨Int.emod_nonneg _ (by omega), Int.emod_lt_of_pos _ (by omega)⟩
  · exact ⟨Int.emod_nonneg _ (by omega), Int.emod_lt_of_pos _ (by omega)⟩
theorem tn_bp {N : Nat} {s : P3} {m : Int} (hm : 1 ≤ m) (b : Bp N s) : Bp (N + 1) (tn s m) := by
  unfold tn
  obtain ⟨⟨a0, a1⟩, b1, c0, c1⟩ := b
  split
  · refine ⟨⟨Int.ediv_nonneg a0 (by omega), Int.lt_of_le_of_lt (Int.ediv_le_self _ a0) a1⟩, b1, c0, ?_⟩
    show s.c ≤ ((N + 1 : Nat) : Int)
    omega
  · refine ⟨⟨a0, a1⟩, b1, ?_, ?_⟩
    · show 0 ≤ s.c + 1
      omega
    · show s.c + 1 ≤ ((N + 1 : Nat) : Int)
      omega
variable {hp : Sh}
theorem hp_at {s : P3} : (hp ++ [pt s])[hp.length]? = some (pt s) := by rw [List.getElem?_append_right (Nat.le_refl _), Nat.sub_self]; rfl
theorem hp_set {s : P3} {x : Ob} : (hp ++ [pt s]).set hp.length x = hp ++ [x] := by rw [List.set_append_right _ _ (Nat.le_refl _), Nat.sub_self]; rfl
theorem ok_lt {i : Int} (h0 : 0 ≤ i) (h : i < 10 ^ 900) : okI i = true := by
  unfold okI LIM
  refine decide_eq_true ?_
  have h2 : i.natAbs < 10 ^ 900 := by
    have : ((i.natAbs : Nat) : Int) < ((10 ^ 900 : Nat) : Int) := by rw [Int.natAbs_of_nonneg h0]; exact h
    exact Int.ofNat_lt.mp this
  exact Nat.lt_trans h2 (Nat.pow_lt_pow_right (by decide) (by decide))
theorem ok_b {i : Int} (h0 : 0 ≤ i) (h : i ≤ 100000000000000000000) : okI i = true := ok_lt h0 (Int.lt_of_le_of_lt h (by decide +kernel))
theorem mulB {a b : Int} (ha : 0 ≤ a ∧ a ≤ 100000000000000000000) (hb : 0 ≤ b ∧ b ≤ 100000000000000000000) : binD .Mult (.int a) (.int b) = some (.int (a * b)) := by
  show (if okI a && okI b then some (PyData.int (a * b)) else none) = _
  rw [ok_b ha.1 ha.2, ok_b hb.1 hb.2]
  rfl
theorem modB {a m : Int} (hm : 0 < m) : binD .Mod (.int a) (.int m) = some (.int (a % m)) := by
  show (if 0 < m then some (PyData.int (a % m)) else none) = _
  rw [if_pos hm]
theorem divB {a m : Int} (hm : 0 < m) (h : m ≤ 100000000000000000000) : binD .FloorDiv (.int a) (.int m) = some (.int (a / m)) := by
  show (if decide (0 < m) && okI m then some (PyData.int (a / m)) else none) = _
  rw [decide_eq_true hm, ok_b (by omega) h]
  rfl
theorem powB {i j : Int} (h : 0 ≤ j ∧ j ≤ 100) (o : okI i = true) : binD .Pow (.int i) (.int j) = some (.int (i ^ j.toNat)) := by
  show (if decide (0 ≤ j ∧ j ≤ 100) && okI i then some (PyData.int (i ^ j.toNat)) else none) = _
  rw [decide_eq_true h, o]
  rfl
theorem emod_rg {a : Int} (m : Int) (hm : 0 < m) (h : m ≤ 100000000000000000000) : 0 ≤ a % m ∧ a % m ≤ 100000000000000000000 := by
  have := Int.emod_nonneg a (show m ≠ 0 by omega)
  have := Int.emod_lt_of_pos a hm
  omega
theorem p1 {k N : Nat} {s : P3} {m : Int} (b : Bp N s) (hN : N ≤ 1000000) (hm : 1 ≤ m ∧ m ≤ 1000000000) : Cl (k + 1) 1 [.ref hp.length, .d (.int m)] (hp ++ [pt s]) = .ok (.d (.int (tv s m))) (hp ++ [pt (tn s m)]) := by
  obtain ⟨⟨a0, a1⟩, ⟨b0, b1⟩, c0, c1⟩ := b
  rw [Cl, call_at φ1 rfl]
  refine fin_end ?_
  have at0 : ∀ (t : P3) env, env[0]? = some (.v (.ref hp.length)) → Ev k (.ix (.var 0) (.cst (.int 0))) env (hp ++ [pt t]) = .ok (.d (.int t.a)) (hp ++ [pt t]) := fun t env e => e_ixR (by rw [evE, e]) rfl hp_at at_0
  have at1 : ∀ (t : P3) env, env[0]? = some (.v (.ref hp.length)) → Ev k (.ix (.var 0) (.cst (.int 1))) env (hp ++ [pt t]) = .ok (.d (.int t.b)) (hp ++ [pt t]) := fun t env e => e_ixR (by rw [evE, e]) rfl hp_at at_1
  have at2 : ∀ (t : P3) env, env[0]? = some (.v (.ref hp.length)) → Ev k (.ix (.var 0) (.cst (.int 2))) env (hp ++ [pt t]) = .ok (.d (.int t.c)) (hp ++ [pt t]) := fun t env e => e_ixR (by rw [evE, e]) rfl hp_at at_2
  have t0 : tru (Ev k (.cmp .Gt (.ix (.var 0) (.cst (.int 0))) (.cst (.int 0))) [.v (.ref hp.length), .v (.d (.int m)), .no, .no, .no] (hp ++ [pt s])) = .ok (decide (0 < s.a)) (hp ++ [pt s]) := t_cmp (at0 s _ rfl) rfl rfl
  unfold tv tn
  by_cases c : 0 < s.a
  · rw [if_pos c, if_pos c]
    refine s_ifT (t0.trans (by rw [decide_eq_true c])) ?_
    refine (s_asg (e_bin (at0 s _ rfl) rfl (modB (by omega))) rfl).trans ?_
    refine (s_setix (e_bin (at0 s _ rfl) rfl (divB (by omega) (by omega))) rfl rfl hp_at (k := 0) rfl).trans ?_
    rw [hp_set]
    exact s_ret rfl
  · rw [if_neg c, if_neg c]
    refine (s_ifF (t0.trans (by rw [decide_eq_false c]))).trans ?_
    refine (s_setix (e_bin (at2 s _ rfl) rfl rfl) rfl rfl hp_at (k := 2) rfl).trans ?_
    rw [hp_set]
    have r1 := emod_rg (a := (s.b + 98317 * (s.c + 1)) ^ 3) M1 (by decide) (by decide)
    have r2 := emod_rg (a := (o1 s + s.b % 65521 + 37 * (s.c + 1)) ^ 5) M2 (by decide) (by decide)
    have r3 := emod_rg (a := s.b) 65521 (by decide) (by decide)
    have r4 := Int.emod_lt_of_pos (s.b) (show (0 : Int) < 65521 by decide)
    have r5 := Int.emod_lt_of_pos ((s.b + 98317 * (s.c + 1)) ^ 3) (show (0 : Int) < M1 by decide)
    have r5 : o1 s < 2305843009213693921 := r5
    have r6 : 0 ≤ o1 s := r1.1
    have u2 : ∀ (env : En), env[0]? = some (.v (.ref hp.length)) → ∀ j : Int, 0 ≤ j ∧ j ≤ 100000000 → Ev k (.bin .Mult (.cst (.int j)) (.ix (.var 0) (.cst (.int 2)))) env (hp ++ [pt ⟨s.a, s.b, s.c + 1⟩]) = .ok (.d (.int (j * (s.c + 1)))) (hp ++ [pt ⟨s.a, s.b, s.c + 1⟩]) := fun env e j hj => e_bin rfl (at2 ⟨s.a, s.b, s.c + 1⟩ _ e) (mulB ⟨hj.1, by omega⟩ ⟨by show 0 ≤ s.c + 1; omega, by show s.c + 1 ≤ _; omega⟩)
    have w1 : okI (s.b + 98317 * (s.c + 1)) = true := ok_b (by omega) (by omega)
    have w2 : okI (o1 s + s.b % 65521 + 37 * (s.c + 1)) = true := ok_b (by omega) (by omega)
    refine (s_asg (e_bin (e_bin (e_bin (at1 ⟨s.a, s.b, s.c + 1⟩ _ rfl) (u2 _ rfl 98317 (by decide)) rfl) rfl (powB (j := 3) (by decide) w1)) rfl (modB (by decide))) rfl).trans ?_
    refine (s_asg (e_bin (e_bin (e_bin (e_bin (x := .int (o1 s)) rfl (e_bin (at1 ⟨s.a, s.b, s.c + 1⟩ _ rfl) rfl (modB (by decide))) rfl) (u2 _ rfl 37 (by decide)) rfl) rfl (powB (j := 5) (by decide) w2)) rfl (modB (by decide))) rfl).trans ?_
    exact s_ret (e_bin (e_bin (x := .int (o2 s)) rfl rfl (divB (by decide) (by decide))) rfl (modB (by omega)))
end Tx
namespace Tx
open PySem Mi
/-! ### errors with a message -/
def W4 : List Str := ["not a job", "", "a", "seq(5, -3) 0"]
theorem p5a {k : Nat} (h : Sh) : Cl (k + 3) 5 [.d (.str "not a job")] h = .ok (.d (.bool true)) h := by kernel_rfl
theorem p5b {k : Nat} (h : Sh) : Cl (k + 3) 5 [.d (.str "")] h = .ok (.d (.bool true)) h := by kernel_rfl
theorem p5c {k : Nat} (h : Sh) : Cl (k + 3) 5 [.d (.str "a")] h = .ok (.d (.bool true)) h := by kernel_rfl
theorem p5d {k : Nat} (h : Sh) : Cl (k + 3) 5 [.d (.str "seq(5, -3) 0")] h = .ok (.d (.bool true)) h := by kernel_rfl
theorem p5 {k : Nat} {w : Str} (m : w ∈ W4) (h : Sh) : Cl (k + 3) 5 [.d (.str w)] h = .ok (.d (.bool true)) h := by
  simp only [W4, List.mem_cons, List.not_mem_nil, or_false] at m
  rcases m with rfl | rfl | rfl | rfl
  · exact p5a h
  · exact p5b h
  · exact p5c h
  · exact p5d h
end Tx
namespace Tx
open PySem Mi
/-! ### errors that keep a value -/
def En6 (nm : Str) (i : Int) (a : Sl) : En := [.v (.d (.str nm)), .v (.d (.int i)), a, .no, .no, .no, .no, .no]
def L4 (nm : Str) (i : Int) : List PyData := [.str nm, .str nm, .int i, .int i]
def L5 (nm : Str) (i : Int) : List PyData := [.str nm, .str nm, .int i, .int i, .int i]
theorem rest6 {k : Nat} (nm : Str) (i : Int) (h : Sh) : evSs (Cf (k + 2)) (GT gs) 50000 (f6.body.drop 2) (En6 nm i (.v (.d (.list (L4 nm i))))) h = .ok (.rt (.d (.bool true))) h := by kernel_rfl
theorem first6 {k : Nat} (nm : Str) (i : Int) (h : Sh) : Ev k (.ofL (.disp [.attr (.mkv 15 "UnknownName" "name" (.var 0)) 15 "UnknownName" "name", .attr (.mkv 16 "NameConflict" "name" (.var 0)) 16 "NameConflict" "name", .attr (.mkv 17 "InvalidNumber" "value" (.var 1)) 17 "InvalidNumber" "value", .attr (.mkv 18 "TooMany" "limit" (.var 1)) 18 "TooMany" "limit"])) (En6 nm i .no) h = .ok (.d (.list (L4 nm i))) h := by kernel_rfl
theorem l5a {k : Nat} (nm : Str) (i : Int) (h : Sh) : Ev k (.bin .Add (.var 2) (.ofL (.disp [.attr (.mkv 19 "NotEnough" "least" (.var 1)) 19 "NotEnough" "least"]))) (En6 nm i (.v (.d (.list (L4 nm i))))) h = .ok (.d (.list (L5 nm i))) h := by kernel_rfl
theorem l5b {k : Nat} (nm : Str) (i : Int) (h : Sh) : Ev k (.bin .Add (.bin .Mult (.ofL (.disp [.var 0])) (.cst (.int 2))) (.bin .Mult (.ofL (.disp [.var 1])) (.cst (.int 3)))) (En6 nm i (.v (.d (.list (L4 nm i))))) h = .ok (.d (.list (L5 nm i))) h := by kernel_rfl
theorem p6 {k : Nat} {nm : Str} {i : Int} (hn : (reprText nm).length ≤ 52) (hi : i.natAbs < 10 ^ 51) (h : Sh) : Cl (k + 3) 6 [.d (.str nm), .d (.int i)] h = .ok (.d (.bool true)) h := by
  rw [Cl, call_at φ6 rfl]
  refine fin_end ?_
  refine (s_asg (first6 (k := k + 2) nm i h) rfl).trans ?_
  have ok : showOk (.list (L5 nm i)) = true := by
    have f1 : Fit 52 0 (.str nm) := fit_strB hn
    have f2 : Fit 52 0 (.int i) := fit_int hi
    exact Fit.ok (b := 52 + 2 + (52 + 2 + (52 + 2 + (52 + 2 + (52 + 2 + 0)))) + 3) (n := 1) rfl (fit_list (fits_cons f1 (fits_cons f1 (fits_cons f2 (fits_cons f2 (fits_cons f2 fits_nil)))))) (Nat.le_of_ble_eq_true rfl) (by decide)
  have r1 := e_bi (b := .repr) (es_cons (l5a (k := k + 2) nm i h) es_nil) rfl (repr_some ok)
  have r2 := e_bi (b := .repr) (es_cons (l5b (k := k + 2) nm i h) es_nil) rfl (repr_some ok)
  refine (s_ifF (t_cmp r1 r2 ?_)).trans (rest6 nm i h)
  show (eqD (.str _) (.str _)).map (!·) = some false
  have e : eqD (.str (PyData.list (L5 nm i)).shown) (.str (PyData.list (L5 nm i)).shown) = some true := by
    show (if true then some (PyData.eqv (.str (PyData.list (L5 nm i)).shown) (.str (PyData.list (L5 nm i)).shown)) else none) = _
    rw [if_pos rfl]
    simp [PyData.eqv]
  rw [e]
  rfl
end Tx
namespace Tx
open PySem Mi
variable {hp : Sh}
/-! ### the pot -/
def MP : Int := (10 ^ 60) ^ 14
theorem MP_b : 0 < MP ∧ MP ≤ 10 ^ 840 := by decide +kernel
theorem eMP {K : Nat} {env : En} {h : Sh} : Ev K (.bin .Pow (.bin .Pow (.cst (.int 10)) (.cst (.int 60))) (.cst (.int 14))) env h = .ok (.d (.int MP)) h := by
  refine e_bin (x := .int (10 ^ 60)) (e_bin rfl rfl ((powB (by decide) (ok_b (by decide) (by decide))).trans rfl)) rfl ((powB (i := 10 ^ 60) (by decide) (ok_lt (by decide) (by decide +kernel))).trans ?_)
  rfl
theorem p0 {k at' : Nat} {ns : List Int} (ha : at' < 1000) : ∃ s, Cl (k + 1) 0 [.scr ns, .d (.int at')] hp = .ok (.ref hp.length) (hp ++ [pt s]) ∧ Bp 0 s := by
  have m1 := MP_b
  obtain ⟨cell, hc, c0, c1⟩ : ∃ cell : Int, (∀ r, evSs (Cf k) (GT gs) 50000 (.iff (.cmp .Lt (.var 1) (.bi .len [.var 0])) [.asg (.n 2) (.bin .Mod (.bi .abs [.ix (.var 0) (.var 1)]) (.bin .Pow (.bin .Pow (.cst (.int 10)) (.cst (.int 60))) (.cst (.int 14))))] [] :: r) [.v (.scr ns), .v (.d (.int at')), .v (.d (.int 0)), .no] hp =
      evSs (Cf k) (GT gs) 50000 r [.v (.scr ns), .v (.d (.int at')), .v (.d (.int cell)), .no] hp) ∧ 0 ≤ cell ∧ cell < MP := by
    have t : tru (Ev k (.cmp .Lt (.var 1) (.bi .len [.var 0])) [.v (.scr ns), .v (.d (.int at')), .v (.d (.int 0)), .no] hp) = .ok (decide ((at' : Int) < (ns.length : Int))) hp := t_cmp (y := .int ns.length) rfl rfl rfl
    by_cases c : at' < ns.length
    · refine ⟨(if ns[at'] < 0 then -ns[at'] else ns[at']) % MP, fun r => ?_, Int.emod_nonneg _ (by have := m1.1; omega), Int.emod_lt_of_pos _ m1.1⟩
      have q : L2.atI ns (at' : Int) = some ns[at'] := at_k (List.getElem?_eq_getElem c)
      have ix : Ev k (.ix (.var 0) (.var 1)) [.v (.scr ns), .v (.d (.int at')), .v (.d (.int 0)), .no] hp = .ok (.d (.int ns[at'])) hp := by
        rw [Ev, evE, evE]
        show (lift (ixV hp (.scr ns) (.d (.int at'))) hp) = _
        rw [ixV, q]
        rfl
      have ab : Ev k (.bi .abs [.ix (.var 0) (.var 1)]) [.v (.scr ns), .v (.d (.int at')), .v (.d (.int 0)), .no] hp = .ok (.d (.int (if ns[at'] < 0 then -ns[at'] else ns[at']))) hp := e_bi (es_cons ix es_nil) rfl rfl
      exact s_ifN (t.trans (by rw [decide_eq_true (by omega)])) ((s_asg (e_bin ab eMP (modB m1.1)) rfl).trans ss_nil)
    · exact ⟨0, fun r => s_ifF (t.trans (by rw [decide_eq_false (by omega)])), Int.le_refl _, m1.1⟩
  have c2 : cell < 10 ^ 900 := Int.lt_trans (Int.lt_of_lt_of_le c1 m1.2) (by decide +kernel)
  have r1 := emod_rg (a := cell) 2147483587 (by decide) (by decide)
  have r2 := Int.emod_lt_of_pos cell (show (0 : Int) < 2147483587 by decide)
  let mixed : Int := (cell % 2147483587 + 6151 * at' + 3) ^ 5 % 2305843009213693951
  have e18 : ∀ env h, Ev k (.bin .Pow (.cst (.int 10)) (.cst (.int 18))) env h = .ok (.d (.int 1000000000000000000)) h := fun env h => e_bin rfl rfl ((powB (by decide) (ok_b (by decide) (by decide))).trans (by rw [show (10 : Int) ^ (18 : Int).toNat = 1000000000000000000 by decide]))
  have em : Ev k (.bin .Mod (.bin .Pow (.bin .Add (.bin .Add (.bin .Mod (.var 2) (.cst (.int 2147483587))) (.bin .Mult (.cst (.int 6151)) (.var 1))) (.cst (.int 3))) (.cst (.int 5))) (.cst (.int 2305843009213693951))) [.v (.scr ns), .v (.d (.int at')), .v (.d (.int cell)), .no] hp = .ok (.d (.int mixed)) hp :=
    e_bin (e_bin (e_bin (e_bin (e_bin (x := .int cell) rfl rfl (modB (by decide))) (e_bin (y := .int at') rfl rfl (mulB (by decide) ⟨by omega, by omega⟩)) rfl) rfl rfl) rfl (powB (j := 5) (by decide) (ok_b (by omega) (by omega)))) rfl (modB (by decide))
  let big : Int := if decide (1000000000000000000 ≤ cell) then 1 else 0
  have eb : Ev k (.bin .Mult (.var 2) (.bi .int [.cmp .GtE (.var 2) (.bin .Pow (.cst (.int 10)) (.cst (.int 18)))])) [.v (.scr ns), .v (.d (.int at')), .v (.d (.int cell)), .v (.d (.int mixed))] hp = .ok (.d (.int (cell * big))) hp := by
    have hb : 0 ≤ big ∧ big ≤ 1 := by
      show 0 ≤ (if decide (1000000000000000000 ≤ cell) then (1 : Int) else 0) ∧ (if decide (1000000000000000000 ≤ cell) then (1 : Int) else 0) ≤ 1
      split <;> decide
    refine e_bin (x := .int cell) (y := .int big) rfl (e_bi (es_cons (e_cmp (x := .int cell) rfl (e18 _ _) rfl) es_nil) rfl rfl) ?_
    show (if okI cell && okI big then some (PyData.int (cell * big)) else none) = _
    rw [ok_lt c0 c2, ok_b hb.1 (by omega)]
    rfl
  refine ⟨⟨cell * big, mixed, 0⟩, ?_, ⟨?_, ?_⟩, ⟨?_, ?_⟩, ?_, ?_⟩
  · rw [Cl, call_at φ0 rfl]
    refine fin_end ((s_asg rfl rfl).trans ((hc _).trans ((s_asg em rfl).trans (s_ret (e_newl ?_)))))
    exact l_disp (es_cons eb (es_cons rfl (es_cons rfl es_nil))) rfl (Nat.le_of_ble_eq_true rfl)
  · show 0 ≤ cell * (if decide (1000000000000000000 ≤ cell) then (1 : Int) else 0)
    split <;> omega
  · show cell * (if decide (1000000000000000000 ≤ cell) then (1 : Int) else 0) < 10 ^ 900
    split
    · rw [Int.mul_one]; exact c2
    · rw [Int.mul_zero]; decide +kernel
  · exact Int.emod_nonneg _ (by decide)
  · exact Int.emod_lt_of_pos _ (by decide)
  · exact Int.le_refl _
  · exact Int.le_refl _
def N6 : List Str := ["name", "a", "b", "job", "zzzzzzzz", "step"]
theorem at_in {xs : List PyData} {v : Int} (h0 : 0 ≤ v) (h1 : v < xs.length) : ∃ z, z ∈ xs ∧ L2.atI xs v = some z := by
  obtain ⟨n, rfl⟩ : ∃ n : Nat, v = n := ⟨v.toNat, by omega⟩
  have hn : n < xs.length := by omega
  exact ⟨xs[n], List.getElem_mem hn, at_k (List.getElem?_eq_getElem hn)⟩
theorem n6_short : ∀ w ∈ N6, (reprText w).length ≤ 52 := by decide +kernel
def body7 : List Ts := [.asg (.n 2) (.call 0 [.var 0, .var 1]), .asg (.n 3) (.ix (.ofL (.disp [.cst (.str "not a job"), .cst (.str ""), .cst (.str "a"), .cst (.str "seq(5, -3) 0")])) (.call 1 [.var 2, .cst (.int 4)])), .asg (.n 4) (.call 1 [.var 2, .bin .Pow (.cst (.int 10)) (.cst (.int 9))]), .asg (.n 4) (.ix (.ofL (.disp [.var 4, .cst (.int 0), .cst (.int 1), .bin .Pow (.cst (.int 10)) (.cst (.int 30))])) (.call 1 [.var 2, .cst (.int 4)])), .asg (.n 5) (.ix (.ofL (.disp [.cst (.str "name"), .cst (.str "a"), .cst (.str "b"), .cst (.str "job"), .cst (.str "zzzzzzzz"), .cst (.str "step")])) (.call 1 [.var 2, .cst (.int 6)])), .iff (.or [.not (.call 5 [.var 3]), .not (.call 6 [.var 5, .var 4])]) [.ret (.cst (.bool false))] []]
theorem ev9 {K : Nat} {env : En} {h : Sh} : Ev K (.bin .Pow (.cst (.int 10)) (.cst (.int 9))) env h = .ok (.d (.int 1000000000)) h := e_bin rfl rfl ((powB (by decide) (ok_b (by decide) (by decide))).trans (by rw [show (10 : Int) ^ (9 : Int).toNat = 1000000000 by decide]))
theorem ev30 {K : Nat} {env : En} {h : Sh} : Ev K (.bin .Pow (.cst (.int 10)) (.cst (.int 30))) env h = .ok (.d (.int 1000000000000000000000000000000)) h := e_bin rfl rfl ((powB (by decide) (ok_b (by decide) (by decide))).trans (by rw [show (10 : Int) ^ (30 : Int).toNat = 1000000000000000000000000000000 by decide]))
theorem turn7 {a : Nat} {ns : List Int} {s2 s3 s4 s5 : Sl} (ha : a < 1000) : ∃ L t3 t4 t5 h', evSs (Cf 214) (GT gs) 50000 body7 [.v (.scr ns), .v (.d (.int a)), s2, s3, s4, s5] hp = .ok (.nx [.v (.scr ns), .v (.d (.int a)), .v (.ref L), t3, t4, t5]) h' := by
  obtain ⟨s, q, b⟩ := p0 (hp := hp) (k := 213) (ns := ns) ha
  have rg1 := tv_rg (s := s) (m := 4) (by decide)
  have b1 := tn_bp (m := 4) (by decide) b
  have q1 := p1 (hp := hp) (k := 213) (m := 4) b (by decide) (by decide)
  have rg2 := tv_rg (s := tn s 4) (m := 1000000000) (by decide)
  have b2 := tn_bp (m := 1000000000) (by decide) b1
  have q2 := p1 (hp := hp) (k := 213) (m := 1000000000) b1 (by decide) (by decide)
  generalize hs2 : tn (tn s 4) 1000000000 = s2' at b2 q2
  have rg3 := tv_rg (s := s2') (m := 4) (by decide)
  have b3 := tn_bp (m := 4) (by decide) b2
  have q3 := p1 (hp := hp) (k := 213) (m := 4) b2 (by decide) (by decide)
  generalize hs3 : tn s2' 4 = s3' at b3 q3
  have rg4 := tv_rg (s := s3') (m := 6) (by decide)
  have q4 := p1 (hp := hp) (k := 213) (m := 6) b3 (by decide) (by decide)
  obtain ⟨w, mw, ew⟩ := at_in (xs := [.str "not a job", .str "", .str "a", .str "seq(5, -3) 0"]) rg1.1 (by show tv s 4 < ((4 : Nat) : Int); exact rg1.2)
  obtain ⟨w, rfl, mw2⟩ : ∃ w', w = .str w' ∧ w' ∈ W4 := by
    simp only [List.mem_cons, List.not_mem_nil, or_false] at mw
    rcases mw with rfl | rfl | rfl | rfl <;> exact ⟨_, rfl, by simp [W4]⟩
  obtain ⟨z, mz, ez⟩ := at_in (xs := [.int (tv (tn s 4) 1000000000), .int 0, .int 1, .int 1000000000000000000000000000000]) rg3.1 (by show tv s2' 4 < ((4 : Nat) : Int); exact rg3.2)
  obtain ⟨i, rfl, mi⟩ : ∃ i : Int, z = .int i ∧ i.natAbs < 10 ^ 51 := by
    simp only [List.mem_cons, List.not_mem_nil, or_false] at mz
    rcases mz with rfl | rfl | rfl | rfl
    · refine ⟨_, rfl, ?_⟩
      have : (tv (tn s 4) 1000000000).natAbs < 1000000000 := by omega
      exact Nat.lt_trans this (by decide)
    · exact ⟨_, rfl, by decide⟩
    · exact ⟨_, rfl, by decide⟩
    · exact ⟨_, rfl, by decide⟩
  obtain ⟨nm, mn, en⟩ := at_in (xs := [.str "name", .str "a", .str "b", .str "job", .str "zzzzzzzz", .str "step"]) rg4.1 (by show tv s3' 6 < ((6 : Nat) : Int); exact rg4.2)
  obtain ⟨nm, rfl, mn2⟩ : ∃ w', nm = .str w' ∧ w' ∈ N6 := by
    simp only [List.mem_cons, List.not_mem_nil, or_false] at mn
    rcases mn with rfl | rfl | rfl | rfl | rfl | rfl <;> exact ⟨_, rfl, by simp [N6]⟩
  refine ⟨hp.length, .v (.d (.str w)), .v (.d (.int i)), .v (.d (.str nm)), hp ++ [pt (tn s3' 6)], ?_⟩
  refine (s_asg ((e_call (es_cons rfl (es_cons rfl es_nil))).trans q) rfl).trans ?_
  refine (s_asg (e_ix (e_disp (es_cons rfl (es_cons rfl (es_cons rfl (es_cons rfl es_nil)))) rfl (Nat.le_of_ble_eq_true rfl)) ((e_call (es_cons rfl (es_cons rfl es_nil))).trans q1) ew) rfl).trans ?_
  refine (s_asg ((e_call (es_cons rfl (es_cons ev9 es_nil))).trans q2) rfl).trans ?_
  refine (s_asg (e_ix (e_disp (es_cons rfl (es_cons rfl (es_cons rfl (es_cons ev30 es_nil)))) rfl (Nat.le_of_ble_eq_true rfl)) ((e_call (es_cons rfl (es_cons rfl es_nil))).trans q3) ez) rfl).trans ?_
  refine (s_asg (e_ix (e_disp (es_cons rfl (es_cons rfl (es_cons rfl (es_cons rfl (es_cons rfl (es_cons rfl es_nil)))))) rfl (Nat.le_of_ble_eq_true rfl)) ((e_call (es_cons rfl (es_cons rfl es_nil))).trans q4) en) rfl).trans ?_
  refine (s_ifF ?_).trans ss_nil
  refine (t_orF (t_nF (t_b ((e_call (es_cons rfl es_nil)).trans (p5 (k := 211) mw2 _))))).trans (t_or1.trans (t_nF (t_b ((e_call (es_cons rfl (es_cons rfl es_nil))).trans (p6 (k := 211) (n6_short _ mn2) mi _)))))
theorem loop7 {ns : List Int} : ∀ (j a : Nat) (hp : Sh) (s1 s2 s3 s4 s5 : Sl), a + j ≤ 1000 → ∃ t1 t2 t3 t4 t5 h', forLoop (evSs (Cf 214) (GT gs) 50000 body7) (.n 1) (rng a j) [.v (.scr ns), s1, s2, s3, s4, s5] hp = .ok (.nx [.v (.scr ns), t1, t2, t3, t4, t5]) h'
  | 0, a, hp, s1, s2, s3, s4, s5, _ => ⟨s1, s2, s3, s4, s5, hp, fl_nil⟩
  | j + 1, a, hp, s1, s2, s3, s4, s5, h => by
    obtain ⟨L, t3, t4, t5, h', q⟩ := turn7 (hp := hp) (ns := ns) (a := a) (s2 := s2) (s3 := s3) (s4 := s4) (s5 := s5) (by omega)
    obtain ⟨u1, u2, u3, u4, u5, h'', q2⟩ := loop7 j (a + 1) h' (.v (.d (.int a))) (.v (.ref L)) t3 t4 t5 (by omega)
    exact ⟨u1, u2, u3, u4, u5, h'', fl_next rfl q q2⟩
theorem law_ok : ∀ ns : List Int, ns.length ≤ 63 → ∃ hq, callF (ΦT ds) (GT gs) 50000 215 7 [.scr ns] [] = .ok (.d (.bool true)) hq := by
  intro ns hns
  obtain ⟨j, hj, lj⟩ : ∃ j : Nat, (if (if (ns.length : Int) < 8 then (ns.length : Int) else 8) > 1 then (if (ns.length : Int) < 8 then (ns.length : Int) else 8) else 1) = (j : Int) ∧ j ≤ 8 := by
    by_cases c : (ns.length : Int) < 8
    · rw [if_pos c]
      by_cases d : (ns.length : Int) > 1
      · rw [if_pos d]; exact ⟨ns.length, rfl, by omega⟩
      · rw [if_neg d]; exact ⟨1, rfl, by omega⟩
    · rw [if_neg c, if_pos (by decide)]; exact ⟨8, rfl, by omega⟩
  obtain ⟨t1, t2, t3, t4, t5, h', q⟩ := loop7 (ns := ns) j 0 [] .no .no .no .no .no (by omega)
  refine ⟨h', ?_⟩
  rw [call_at φ7 rfl]
  refine fin_end ?_
  have r : evE (Cf 214) (GT gs) (.bi .max [.cst (.int 1), .bi .min [.cst (.int 8), .bi .len [.var 0]]]) [.v (.scr ns), .no, .no, .no, .no, .no] [] = .ok (.d (.int j)) [] := by
    rw [← hj]
    exact e_bi (es_cons rfl (es_cons (e_bi (es_cons rfl (es_cons rfl es_nil)) rfl rfl) es_nil)) rfl rfl
  refine (s_for (es_cons r es_nil) (items := rng 0 j) ?_ q).trans (s_ret rfl)
  show (if -1000000 ≤ (j : Int) ∧ (j : Int) ≤ 1000000 then some (rng 0 (j : Int).toNat) else none) = _
  rw [if_pos (by omega), Int.toNat_natCast]
end Tx
open PySem PySem.W PyProof.Rows
set_option maxHeartbeats 0 in
theorem PySem.Challenge.cw_roomprofile_k99_errors_of_the_package_holds : PySem.Challenge.rw_roomprofile_k99_errors_of_the_package.Holds := by
  w_on; o_law; k_head; (case hw => w_witness2)
  k_fill
  refine Mi.walk_me (l := PySem.Challenge.rw_roomprofile_k99_errors_of_the_package) (n := 63) (k := 215) (i := 7) (x := "_law_script") (fld := Mi.fldT Tx.csl.length Tx.vsl) (tb := Tx.tb) (Φ := Mi.ΦT Tx.ds) (G := Mi.GT Tx.gs) (W := 50000) (pz := Mi.pzT Tx.ds) rfl (by decide) rfl ⟨rfl, by decide, by decide⟩ rfl ?F rfl Tx.law_ok
  case F =>
    intro w mg h Y N
    have KX := PySem.W.kIn_of Y
    refine ⟨_, _, KX, fun base _ => Mi.prOk KX N rfl rfl (Mi.clsT (cs := Tx.csl) (vs := Tx.vsl) (l := Tx.sbl) (up := Tx.upl) (ys := Tx.ysl) KX N rfl rfl rfl rfl rfl rfl ?uI ?uC ?uV) Tx.defC ?uD ?uG ?uZ⟩
    case uD =>
      refine' Tx.defK ?d0 ?d1 ?d2 ?d3 ?d4 ?d5 ?d6 ?d7
      (case d0 => (refine' Mi.DK.of rfl Tx.b0 ?w1 ?w2 ?w3 ?w4; (case w1 => k_is); (case w2 => k_is); (case w3 => k_is); (case w4 => k_is)))
      (case d1 => (refine' Mi.DK.of rfl Tx.b1 ?w1 ?w2 ?w3 ?w4; (case w1 => k_is); (case w2 => k_is); (case w3 => k_is); (case w4 => k_is)))
      (case d2 => (refine' Mi.DK.of rfl Tx.b2 ?w1 ?w2 ?w3 ?w4; (case w1 => k_is); (case w2 => k_is); (case w3 => k_is); (case w4 => k_is)))
      (case d3 => (refine' Mi.DK.of rfl Tx.b3 ?w1 ?w2 ?w3 ?w4; (case w1 => k_is); (case w2 => k_is); (case w3 => k_is); (case w4 => k_is)))
      (case d4 => (refine' Mi.DK.of rfl Tx.b4 ?w1 ?w2 ?w3 ?w4; (case w1 => k_is); (case w2 => k_is); (case w3 => k_is); (case w4 => k_is)))
      (case d5 => (refine' Mi.DK.of rfl Tx.b5 ?w1 ?w2 ?w3 ?w4; (case w1 => k_is); (case w2 => k_is); (case w3 => k_is); (case w4 => k_is)))
      (case d6 => (refine' Mi.DK.of rfl Tx.b6 ?w1 ?w2 ?w3 ?w4; (case w1 => k_is); (case w2 => k_is); (case w3 => k_is); (case w4 => k_is)))
      (case d7 => (refine' Mi.DK.of rfl Tx.b7 ?w1 ?w2 ?w3 ?w4; (case w1 => k_is); (case w2 => k_is); (case w3 => k_is); (case w4 => k_is)))
    case uI => kernel_rfl
    case uC => kernel_rfl
    case uV =>
      refine' Mi.vcC ?v15 <| Mi.vcC ?v16 <| Mi.vcC ?v17 <| Mi.vcC ?v18 <| Mi.vcC ?v19 <| Mi.vcN
      (case v15 => (refine' Mi.VcK.of (D := Tx.v15) Mi.xb_Key (Mi.tys_of rfl) ?a ?z ?vc ?xf ?nf ?iC ?tI ?vV ?lk ?hcd Tx.sv15 Tx.bv15 rfl rfl rfl rfl rfl rfl (fun _ => ⟨_, rfl⟩); (case a => k_is); (case z => k_is); (case vc => kernel_rfl); (case xf => kernel_rfl); (case nf => k_is); (case iC => k_is); (case tI => k_is); (case vV => k_is); (case lk => k_is); (case hcd => k_is)))
      (case v16 => (refine' Mi.VcK.of (D := Tx.v16) Mi.xb_Lookup (Mi.tys_of rfl) ?a ?z ?vc ?xf ?nf ?iC ?tI ?vV ?lk ?hcd Tx.sv16 Tx.bv16 rfl rfl rfl rfl rfl rfl (fun _ => ⟨_, rfl⟩); (case a => k_is); (case z => k_is); (case vc => kernel_rfl); (case xf => kernel_rfl); (case nf => k_is); (case iC => k_is); (case tI => k_is); (case vV => k_is); (case lk => k_is); (case hcd => k_is)))
      (case v17 => (refine' Mi.VcK.of (D := Tx.v17) Mi.xb_Index (Mi.tys_of rfl) ?a ?z ?vc ?xf ?nf ?iC ?tI ?vV ?lk ?hcd Tx.sv17 Tx.bv17 rfl rfl rfl rfl rfl rfl (fun _ => ⟨_, rfl⟩); (case a => k_is); (case z => k_is); (case vc => kernel_rfl); (case xf => kernel_rfl); (case nf => k_is); (case iC => k_is); (case tI => k_is); (case vV => k_is); (case lk => k_is); (case hcd => k_is)))
      (case v18 => (refine' Mi.VcK.of (D := Tx.v18) Mi.xb_Overflow (Mi.tys_of rfl) ?a ?z ?vc ?xf ?nf ?iC ?tI ?vV ?lk ?hcd Tx.sv18 Tx.bv18 rfl rfl rfl rfl rfl rfl (fun _ => ⟨_, rfl⟩); (case a => k_is); (case z => k_is); (case vc => kernel_rfl); (case xf => kernel_rfl); (case nf => k_is); (case iC => k_is); (case tI => k_is); (case vV => k_is); (case lk => k_is); (case hcd => k_is)))
      (case v19 => (refine' Mi.VcK.of (D := Tx.v19) Mi.xb_Runtime (Mi.tys_of rfl) ?a ?z ?vc ?xf ?nf ?iC ?tI ?vV ?lk ?hcd Tx.sv19 Tx.bv19 rfl rfl rfl rfl rfl rfl (fun _ => ⟨_, rfl⟩); (case a => k_is); (case z => k_is); (case vc => kernel_rfl); (case xf => kernel_rfl); (case nf => k_is); (case iC => k_is); (case tI => k_is); (case vV => k_is); (case lk => k_is); (case hcd => k_is)))
    case uG => kernel_rfl
    case uZ => kernel_rfl
